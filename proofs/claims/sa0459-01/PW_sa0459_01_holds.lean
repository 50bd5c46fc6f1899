import PyProof.Rows.All
import Wide.All
import OpenK.AllK
import Wide.FinOn
import KE.KLam
import PyProof.ExcAttrAll.Exception
import OpenK.ZHead
import PyProof.Rows.ListMul
import Lean
import PySem.Challenge.RW_sa0459_01
set_option Elab.async false
set_option linter.all false
set_option maxRecDepth 1000000
set_option maxHeartbeats 0
set_option tactic.hygienic false
set_option bootstrap.genMatcherCode false
set_option compiler.extract_closed false
set_option genSizeOf false
set_option genSizeOfSpec false
set_option genInjectivity false
set_option autoImplicit true
namespace Mine.Internal
open PySem PySem.W PySem.Calls PyProof.Rows PySem.SeqAt
noncomputable section
theorem eE1.{u0}{C:Prop}{α0:Sort u0}{P : α0→Prop}(k:∀ x0,P x0→C):(∃ x0,P x0)→C:=fun h=>h.elim fun x0 h=>k x0 h
theorem eE2.{u0,u1}{C:Prop}{α0:Sort u0}{α1:Sort u1}{P : α0→α1→Prop}(k:∀ x0 x1,P x0 x1→C):(∃ x0 x1,P x0 x1)→C:=fun h=>h.elim fun x0 h=>h.elim fun x1 h=>k x0 x1 h
theorem eE3.{u0,u1,u2}{C:Prop}{α0:Sort u0}{α1:Sort u1}{α2:Sort u2}{P : α0→α1→α2→Prop}(k:∀ x0 x1 x2,P x0 x1 x2→C):(∃ x0 x1 x2,P x0 x1 x2)→C:=fun h=>h.elim fun x0 h=>h.elim fun x1 h=>h.elim fun x2 h=>k x0 x1 x2 h
theorem eE4.{u0,u1,u2,u3}{C:Prop}{α0:Sort u0}{α1:Sort u1}{α2:Sort u2}{α3:Sort u3}{P : α0→α1→α2→α3→Prop}(k:∀ x0 x1 x2 x3,P x0 x1 x2 x3→C):(∃ x0 x1 x2 x3,P x0 x1 x2 x3)→C:=fun h=>h.elim fun x0 h=>h.elim fun x1 h=>h.elim fun x2 h=>h.elim fun x3 h=>k x0 x1 x2 x3 h
theorem eE5.{u0,u1,u2,u3,u4}{C:Prop}{α0:Sort u0}{α1:Sort u1}{α2:Sort u2}{α3:Sort u3}{α4:Sort u4}{P : α0→α1→α2→α3→α4→Prop}(k:∀ x0 x1 x2 x3 x4,P x0 x1 x2 x3 x4→C):(∃ x0 x1 x2 x3 x4,P x0 x1 x2 x3 x4)→C:=fun h=>h.elim fun x0 h=>h.elim fun x1 h=>h.elim fun x2 h=>h.elim fun x3 h=>h.elim fun x4 h=>k x0 x1 x2 x3 x4 h
theorem eE6.{u0,u1,u2,u3,u4,u5}{C:Prop}{α0:Sort u0}{α1:Sort u1}{α2:Sort u2}{α3:Sort u3}{α4:Sort u4}{α5:Sort u5}{P : α0→α1→α2→α3→α4→α5→Prop}(k:∀ x0 x1 x2 x3 x4 x5,P x0 x1 x2 x3 x4 x5→C):(∃ x0 x1 x2 x3 x4 x5,P x0 x1 x2 x3 x4 x5)→C:=fun h=>h.elim fun x0 h=>h.elim fun x1 h=>h.elim fun x2 h=>h.elim fun x3 h=>h.elim fun x4 h=>h.elim fun x5 h=>k x0 x1 x2 x3 x4 x5 h
theorem eE7.{u0,u1,u2,u3,u4,u5,u6}{C:Prop}{α0:Sort u0}{α1:Sort u1}{α2:Sort u2}{α3:Sort u3}{α4:Sort u4}{α5:Sort u5}{α6:Sort u6}{P : α0→α1→α2→α3→α4→α5→α6→Prop}(k:∀ x0 x1 x2 x3 x4 x5 x6,P x0 x1 x2 x3 x4 x5 x6→C):(∃ x0 x1 x2 x3 x4 x5 x6,P x0 x1 x2 x3 x4 x5 x6)→C:=fun h=>h.elim fun x0 h=>h.elim fun x1 h=>h.elim fun x2 h=>h.elim fun x3 h=>h.elim fun x4 h=>h.elim fun x5 h=>h.elim fun x6 h=>k x0 x1 x2 x3 x4 x5 x6 h
theorem eE8.{u0,u1,u2,u3,u4,u5,u6,u7}{C:Prop}{α0:Sort u0}{α1:Sort u1}{α2:Sort u2}{α3:Sort u3}{α4:Sort u4}{α5:Sort u5}{α6:Sort u6}{α7:Sort u7}{P : α0→α1→α2→α3→α4→α5→α6→α7→Prop}(k:∀ x0 x1 x2 x3 x4 x5 x6 x7,P x0 x1 x2 x3 x4 x5 x6 x7→C):(∃ x0 x1 x2 x3 x4 x5 x6 x7,P x0 x1 x2 x3 x4 x5 x6 x7)→C:=fun h=>h.elim fun x0 h=>h.elim fun x1 h=>h.elim fun x2 h=>h.elim fun x3 h=>h.elim fun x4 h=>h.elim fun x5 h=>h.elim fun x6 h=>h.elim fun x7 h=>k x0 x1 x2 x3 x4 x5 x6 x7 h
theorem eE9.{u0,u1,u2,u3,u4,u5,u6,u7,u8}{C:Prop}{α0:Sort u0}{α1:Sort u1}{α2:Sort u2}{α3:Sort u3}{α4:Sort u4}{α5:Sort u5}{α6:Sort u6}{α7:Sort u7}{α8:Sort u8}{P : α0→α1→α2→α3→α4→α5→α6→α7→α8→Prop}(k:∀ x0 x1 x2 x3 x4 x5 x6 x7 x8,P x0 x1 x2 x3 x4 x5 x6 x7 x8→C):(∃ x0 x1 x2 x3 x4 x5 x6 x7 x8,P x0 x1 x2 x3 x4 x5 x6 x7 x8)→C:=fun h=>h.elim fun x0 h=>h.elim fun x1 h=>h.elim fun x2 h=>h.elim fun x3 h=>h.elim fun x4 h=>h.elim fun x5 h=>h.elim fun x6 h=>h.elim fun x7 h=>h.elim fun x8 h=>k x0 x1 x2 x3 x4 x5 x6 x7 x8 h
theorem aA2 {C A0 A1:Prop}(k:A0→A1→C):A0∧A1→C:=fun h=>k h.1 h.2
theorem aA3 {C A0 A1 A2:Prop}(k:A0→A1→A2→C):A0∧A1∧A2→C:=fun h=>k h.1 h.2.1 h.2.2
theorem aA4 {C A0 A1 A2 A3:Prop}(k:A0→A1→A2→A3→C):A0∧A1∧A2∧A3→C:=fun h=>k h.1 h.2.1 h.2.2.1 h.2.2.2
theorem aA5 {C A0 A1 A2 A3 A4:Prop}(k:A0→A1→A2→A3→A4→C):A0∧A1∧A2∧A3∧A4→C:=fun h=>k h.1 h.2.1 h.2.2.1 h.2.2.2.1 h.2.2.2.2
theorem aA6 {C A0 A1 A2 A3 A4 A5:Prop}(k:A0→A1→A2→A3→A4→A5→C):A0∧A1∧A2∧A3∧A4∧A5→C:=fun h=>k h.1 h.2.1 h.2.2.1 h.2.2.2.1 h.2.2.2.2.1 h.2.2.2.2.2
theorem aA8 {C A0 A1 A2 A3 A4 A5 A6 A7:Prop}(k:A0→A1→A2→A3→A4→A5→A6→A7→C):A0∧A1∧A2∧A3∧A4∧A5∧A6∧A7→C:=fun h=>k h.1 h.2.1 h.2.2.1 h.2.2.2.1 h.2.2.2.2.1 h.2.2.2.2.2.1 h.2.2.2.2.2.2.1 h.2.2.2.2.2.2.2
theorem IT {C A0 A1 A2 A3 A4 A5 A6 A7 A8 A9 A10 A11:Prop}(k:A0→A1→A2→A3→A4→A5→A6→A7→A8→A9→A10→A11→C):A0∧A1∧A2∧A3∧A4∧A5∧A6∧A7∧A8∧A9∧A10∧A11→C:=fun h=>k h.1 h.2.1 h.2.2.1 h.2.2.2.1 h.2.2.2.2.1 h.2.2.2.2.2.1 h.2.2.2.2.2.2.1 h.2.2.2.2.2.2.2.1 h.2.2.2.2.2.2.2.2.1 h.2.2.2.2.2.2.2.2.2.1 h.2.2.2.2.2.2.2.2.2.2.1 h.2.2.2.2.2.2.2.2.2.2.2
theorem oO {C A B:Prop}(k:A→C)(l:B→C):A∨B→C:=fun h=>h.elim k l
theorem bC {Q:Prop}(k:(Q→False)→False):Q:=Classical.byContradiction k
theorem sj.{u}{α : Type u}{a b : α}{o:Option α}(p:o=some a)(q:o=some b):a=b:=Option.some.inj (p.symm.trans q)
theorem fS {a b c d:Nat}(p:a≤b)(q:c+b≤d+a):c≤d:=Nat.le_of_add_le_add_right (Nat.le_trans q (Nat.add_le_add_left p d))
theorem ft {C:Prop}(h:false=true):C:=Bool.noConfusion h
theorem tf {C:Prop}(h:true=false):C:=Bool.noConfusion h
theorem zns.{u}{C:Prop}{α : Type u}{a : α}(h:none=some a):C:=Option.noConfusion rfl (heq_of_eq h)
theorem zsn.{u}{C:Prop}{α : Type u}{a : α}(h:some a=none):C:=Option.noConfusion rfl (heq_of_eq h)
theorem bnd (h:o.bind f=some b):∃ a,o=some a∧f a=some b:=Option.bind_eq_some_iff.mp h
theorem az (h:(bif b then o else none)=some a):b=true∧o=some a:=by
 cases b with
 | false=>exact zns h
 | true=>exact⟨rfl,h⟩
theorem bu (h:(bif b then none else o)=some a):b=false∧o=some a:=by
 cases b with
 | true=>exact zns h
 | false=>exact⟨rfl,h⟩
theorem eG (h:(bif b then o else p)=some a):b=true∧o=some a∨b=false∧p=some a:=by
 cases b with
 | true=>exact .inl ⟨rfl,h⟩
 | false=>exact .inr ⟨rfl,h⟩
theorem uc (h:(a||b)=true):a=true∨b=true:=Bool.or_eq_true_iff.mp h
theorem aa {a b:Bool}(h:(a&&b)=true):a=true∧b=true:=Bool.and_eq_true_iff.mp h
theorem ab.{u}{α : Type u}{a b : α}(h:some a=some b):a=b:=Option.some.inj h
theorem aC.{u,v}{α : Type u}{β : Type v}{x:Option α}{f : α→β}{b : β}(h:x.map f=some b):∃ a,x=some a∧f a=b:=Option.map_eq_some_iff.mp h
theorem au {p:Prop} [Decidable p](h:decide p=true):p:=of_decide_eq_true h
theorem aD {a b:Nat}(h:Nat.beq a b=true):a=b:=Nat.eq_of_beq_eq_true h
theorem bS {a b:Nat}(h:Nat.ble a b=true):a≤b:=Nat.le_of_ble_eq_true h
set_option genInjectivity true
inductive Vl where
 | none | bool (b:Bool)| int (i:Int)| ge (n:Nat)| str (c:Nat)| tup (l:List Vl)| ref (k:Nat)| cls (k:Nat)| fn (k:Nat)| bt (k:Nat)| src | unset | any | sy (t w n j:Nat)
inductive Ob where
 | list (l:List Vl)| dict (l:List (Nat × Vl))| inst (c:Nat)(l:List (Nat × Vl))| cell (v:Vl)| cL (f:Nat)(cs:List Nat)| eW
inductive Tri (α : Type) where
 | nil | node (o:Option α)(l r:Tri α)
inductive Hp where
 | mk (n:Nat)(t:Tri Ob)
inductive Fm where
 | mk (s:List Vl)(c:List Nat)
inductive Sq where
 | tup (l:List Vl)| lst (i:Nat)
inductive It where
 | one (a:Sq)| enm (a:Sq)| zip (g:Nat)(a b:Sq)| rng (n:Nat)
inductive Mt where
 | s | l | d | f (n:Nat)
section
def jX (d:Bool)(f:Bool)(v:Vl):Bool:=@Vl.rec (fun U=>Bool) (fun U=>Unit) f (fun U=>d) (fun U=>d) (fun U=>d) (fun U=>d) (fun U U=>d) (fun U=>d) (fun U=>d) (fun U=>d) (fun U=>d) d d d (fun U U U U=>d) () (fun U U U U=>()) v
def jm (d:Bool)(f:Bool→Bool)(v:Vl):Bool:=@Vl.rec (fun U=>Bool) (fun U=>Unit) d f (fun U=>d) (fun U=>d) (fun U=>d) (fun U U=>d) (fun U=>d) (fun U=>d) (fun U=>d) (fun U=>d) d d d (fun U U U U=>d) () (fun U U U U=>()) v
def dS (d:Bool)(f:Int→Bool)(v:Vl):Bool:=@Vl.rec (fun U=>Bool) (fun U=>Unit) d (fun U=>d) f (fun U=>d) (fun U=>d) (fun U U=>d) (fun U=>d) (fun U=>d) (fun U=>d) (fun U=>d) d d d (fun U U U U=>d) () (fun U U U U=>()) v
def wGe (d:Bool)(f:Nat→Bool)(v:Vl):Bool:=@Vl.rec (fun U=>Bool) (fun U=>Unit) d (fun U=>d) (fun U=>d) f (fun U=>d) (fun U U=>d) (fun U=>d) (fun U=>d) (fun U=>d) (fun U=>d) d d d (fun U U U U=>d) () (fun U U U U=>()) v
def o5 (d:Bool)(f:Nat→Bool)(v:Vl):Bool:=@Vl.rec (fun U=>Bool) (fun U=>Unit) d (fun U=>d) (fun U=>d) (fun U=>d) f (fun U U=>d) (fun U=>d) (fun U=>d) (fun U=>d) (fun U=>d) d d d (fun U U U U=>d) () (fun U U U U=>()) v
def eY (d:Bool)(f:List Vl→Bool)(v:Vl):Bool:=@Vl.rec (fun U=>Bool) (fun U=>Unit) d (fun U=>d) (fun U=>d) (fun U=>d) (fun U=>d) (fun l U=>f l) (fun U=>d) (fun U=>d) (fun U=>d) (fun U=>d) d d d (fun U U U U=>d) () (fun U U U U=>()) v
def eX (d:Bool)(f:Nat→Bool)(v:Vl):Bool:=@Vl.rec (fun U=>Bool) (fun U=>Unit) d (fun U=>d) (fun U=>d) (fun U=>d) (fun U=>d) (fun U U=>d) f (fun U=>d) (fun U=>d) (fun U=>d) d d d (fun U U U U=>d) () (fun U U U U=>()) v
def Ht (d:Bool)(f:Nat→Bool)(v:Vl):Bool:=@Vl.rec (fun U=>Bool) (fun U=>Unit) d (fun U=>d) (fun U=>d) (fun U=>d) (fun U=>d) (fun U U=>d) (fun U=>d) f (fun U=>d) (fun U=>d) d d d (fun U U U U=>d) () (fun U U U U=>()) v
def wFn (d:Bool)(f:Nat→Bool)(v:Vl):Bool:=@Vl.rec (fun U=>Bool) (fun U=>Unit) d (fun U=>d) (fun U=>d) (fun U=>d) (fun U=>d) (fun U U=>d) (fun U=>d) (fun U=>d) f (fun U=>d) d d d (fun U U U U=>d) () (fun U U U U=>()) v
def wBt (d:Bool)(f:Nat→Bool)(v:Vl):Bool:=@Vl.rec (fun U=>Bool) (fun U=>Unit) d (fun U=>d) (fun U=>d) (fun U=>d) (fun U=>d) (fun U U=>d) (fun U=>d) (fun U=>d) (fun U=>d) f d d d (fun U U U U=>d) () (fun U U U U=>()) v
def pX (d:Bool)(f:Bool)(v:Vl):Bool:=@Vl.rec (fun U=>Bool) (fun U=>Unit) d (fun U=>d) (fun U=>d) (fun U=>d) (fun U=>d) (fun U U=>d) (fun U=>d) (fun U=>d) (fun U=>d) (fun U=>d) f d d (fun U U U U=>d) () (fun U U U U=>()) v
def fw (d:Bool)(f:Bool)(v:Vl):Bool:=@Vl.rec (fun U=>Bool) (fun U=>Unit) d (fun U=>d) (fun U=>d) (fun U=>d) (fun U=>d) (fun U U=>d) (fun U=>d) (fun U=>d) (fun U=>d) (fun U=>d) d f d (fun U U U U=>d) () (fun U U U U=>()) v
def pT (d:Bool)(f:Bool)(v:Vl):Bool:=@Vl.rec (fun U=>Bool) (fun U=>Unit) d (fun U=>d) (fun U=>d) (fun U=>d) (fun U=>d) (fun U U=>d) (fun U=>d) (fun U=>d) (fun U=>d) (fun U=>d) d d f (fun U U U U=>d) () (fun U U U U=>()) v
def wSy (d:Bool)(f:Nat→Nat→Nat→Nat→Bool)(v:Vl):Bool:=@Vl.rec (fun U=>Bool) (fun U=>Unit) d (fun U=>d) (fun U=>d) (fun U=>d) (fun U=>d) (fun U U=>d) (fun U=>d) (fun U=>d) (fun U=>d) (fun U=>d) d d d f () (fun U U U U=>()) v
def aW (d:Bool)(f:List Vl→Bool)(v:Ob):Bool:=@Ob.rec (fun U=>Bool) f (fun U=>d) (fun U U=>d) (fun U=>d) (fun U U=>d) d v
def bO (d:Bool)(f:List (Nat × Vl)→Bool)(v:Ob):Bool:=@Ob.rec (fun U=>Bool) (fun U=>d) f (fun U U=>d) (fun U=>d) (fun U U=>d) d v
def eN (d:Bool)(f:Nat→List (Nat × Vl)→Bool)(v:Ob):Bool:=@Ob.rec (fun U=>Bool) (fun U=>d) (fun U=>d) f (fun U=>d) (fun U U=>d) d v
def oCell (d:Bool)(f:Vl→Bool)(v:Ob):Bool:=@Ob.rec (fun U=>Bool) (fun U=>d) (fun U=>d) (fun U U=>d) f (fun U U=>d) d v
def xd (d:Bool)(f:Nat→List Nat→Bool)(v:Ob):Bool:=@Ob.rec (fun U=>Bool) (fun U=>d) (fun U=>d) (fun U U=>d) (fun U=>d) f d v
def Cv (d:Bool)(f:Bool)(v:Ob):Bool:=@Ob.rec (fun U=>Bool) (fun U=>d) (fun U=>d) (fun U U=>d) (fun U=>d) (fun U U=>d) f v
def ak (d:Bool)(f:Vl→List Vl→Bool)(l:List Vl):Bool:=@List.rec Vl (fun U=>Bool) d (fun a r U=>f a r) l
abbrev KV:=Vl→Hp→Bool
abbrev KL:=List Vl→Hp→Bool
abbrev KE:=Nat→Hp→Bool
abbrev KF:=Fm→Hp→Bool
abbrev KX:=Nat→Fm→Hp→Bool
noncomputable def ee (n:Nat):Nat:=@Nat.rec (fun U=>Nat) 0 (fun U U=>Nat.add (Nat.div (Nat.log2 n) 7) 1) n
noncomputable def lP (a b:Nat):Nat:=Nat.add a (Nat.mul b (Nat.pow 128 (ee a)))
noncomputable def yi (a p:Nat):Bool:=Nat.beq (Nat.mod a (Nat.pow 128 (ee p))) p
noncomputable def FI (a i:Nat):Nat:=Nat.mod (Nat.div a (Nat.pow 128 i)) 128
def Tri.get {α : Type}(t:Tri α):Nat→Option α:=@Tri.rec α (fun U=>Nat→Option α) (fun U=>.none) (fun o U U l r i=>(@Bool.rec (fun U=>Option α) ((@Bool.rec (fun U=>Option α) (r (Nat.sub (Nat.div i 2) 1)) (l (Nat.div i 2)) (Nat.beq (Nat.mod i 2) 1))) (o) (Nat.beq i 0))) t
def Tri.one {α : Type}(v : α)(n:Nat):Nat→Tri α:=@Nat.rec (fun U=>Nat→Tri α) (fun U=>.nil) (fun U self i=>(@Bool.rec (fun U=>Tri α) ((@Bool.rec (fun U=>Tri α) (.node .none .nil (self (Nat.sub (Nat.div i 2) 1))) (.node .none (self (Nat.div i 2)) .nil) (Nat.beq (Nat.mod i 2) 1))) (.node (some v) .nil .nil) (Nat.beq i 0))) n
def Tri.set {α : Type}(v : α)(t:Tri α):Nat→Tri α:=@Tri.rec α (fun U=>Nat→Tri α) (fun i=>Tri.one v (Nat.succ i) i) (fun o lt rt l r i=>(@Bool.rec (fun U=>Tri α) ((@Bool.rec (fun U=>Tri α) (.node o lt (r (Nat.sub (Nat.div i 2) 1))) (.node o (l (Nat.div i 2)) rt) (Nat.beq (Nat.mod i 2) 1))) (.node (some v) lt rt) (Nat.beq i 0))) t
def aL (h:Hp)(i:Nat)(k:Ob→Bool):Bool:=(@Hp.rec (fun U=>Bool) (fun U t=>(@Option.rec Ob (fun U=>Bool) (false) (k) (Tri.get t i))) h)
def aX (h:Hp)(i:Nat)(o:Ob)(k:Hp→Bool):Bool:=@Hp.rec (fun U=>Bool) (fun n t=>k (.mk n (Tri.set o t i))) h
def bM (h:Hp)(o:Ob)(k:Nat→Hp→Bool):Bool:=@Hp.rec (fun U=>Bool) (fun n t=>k n (.mk (Nat.succ n) (Tri.set o t n))) h
def cI (d:List (Nat × Vl))(key:Nat)(kn:Bool)(k:Vl→Bool):Bool:=@List.rec (Nat × Vl) (fun U=>Bool) kn (fun p U ih=>@Prod.rec Nat Vl (fun U=>Bool) (fun a v=>(@Bool.rec (fun U=>Bool) (ih) (k v) (Nat.beq a key))) p) d
def dput (key:Nat)(v:Vl)(d:List (Nat × Vl)):List (Nat × Vl):=@List.rec (Nat × Vl) (fun U=>List (Nat × Vl)) [(key,v)] (fun p r ih=>@Prod.rec Nat Vl (fun U=>List (Nat × Vl)) (fun a w=>(@Bool.rec (fun U=>List (Nat × Vl)) ((a,w) :: ih) ((a,v) :: r) (Nat.beq a key))) p) d
def sx (key:Nat)(d:List (Nat × Vl)):List (Nat × Vl):=@List.rec (Nat × Vl) (fun U=>List (Nat × Vl)) [] (fun p r ih=>@Prod.rec Nat Vl (fun U=>List (Nat × Vl)) (fun a w=>(@Bool.rec (fun U=>List (Nat × Vl)) ((a,w) :: ih) (r) (Nat.beq a key))) p) d
def pB (d:List (Nat × Nat))(key:Nat)(k:Nat→Bool):Bool:=@List.rec (Nat × Nat) (fun U=>Bool) false (fun p U ih=>@Prod.rec Nat Nat (fun U=>Bool) (fun a v=>(@Bool.rec (fun U=>Bool) (ih) (k v) (Nat.beq a key))) p) d
def jZ {α : Type}(l:List α)(i:Nat)(k : α→Bool):Bool:=@List.rec α (fun U=>Nat→Bool) (fun U=>false) (fun a U ih i=>@Nat.rec (fun U=>Bool) (k a) (fun j U=>ih j) i) l i
def lU (v:Vl)(l:List Vl)(i:Nat):List Vl:=@List.rec Vl (fun U=>Nat→List Vl) (fun U=>[]) (fun a r ih i=>@Nat.rec (fun U=>List Vl) (v :: r) (fun j U=>a :: ih j) i) l i
def gU (l m:List Vl):List Vl:=@List.rec Vl (fun U=>List Vl) m (fun a U ih=>a :: ih) l
def fU (l:List Vl):List Vl:=@List.rec Vl (fun U=>List Vl→List Vl) (fun acc=>acc) (fun a U ih acc=>ih (a :: acc)) l []
def eZ {α : Type}(l:List α):Nat:=@List.rec α (fun U=>Nat→Nat) (fun n=>n) (fun U U ih n=>ih (Nat.succ n)) l 0
def xO (l:List Vl)(i:Nat):List Vl:=@List.rec Vl (fun U=>Nat→List Vl) (fun U=>[]) (fun a U ih i=>@Nat.rec (fun U=>List Vl) [] (fun j U=>a :: ih j) i) l i
def mj (l:List Vl)(i:Nat):List Vl:=@List.rec Vl (fun U=>Nat→List Vl) (fun U=>[]) (fun a r ih i=>@Nat.rec (fun U=>List Vl) (a :: r) (fun j U=>ih j) i) l i
def small {α : Type}(l:List α)(k:Bool):Bool:=(@Bool.rec (fun U=>Bool) (false) (k) (Nat.ble (eZ l) 1000))
def mkL (l:List Vl)(h:Hp)(k:KV):Bool:=small l (bM h (.list l) fun i h=>k (.ref i) h)
def mkT (l:List Vl)(h:Hp)(k:KV):Bool:=small l (k (.tup l) h)
def mkS (c:Nat)(h:Hp)(k:KV):Bool:=(@Bool.rec (fun U=>Bool) (false) (k (.str c) h) (Nat.ble (ee c) 1000))
def mkD (d:List (Nat × Vl))(h:Hp)(k:KV):Bool:=small d (bM h (.dict d) fun i h=>k (.ref i) h)
noncomputable def yY (v:Vl)(n:Nat):List Vl:=@Nat.rec (fun U=>List Vl) [] (fun U ih=>v :: ih) n
def ltB (a b:Int):Bool:=(@Int.rec (fun U=>Bool) (fun m=>(@Int.rec (fun U=>Bool) (fun n=>Nat.ble (Nat.succ m) n) (fun U=>false) b)) (fun m=>(@Int.rec (fun U=>Bool) (fun U=>true) (fun n=>Nat.ble (Nat.succ n) m) b)) a)
def eqB (a b:Int):Bool:=(@Int.rec (fun U=>Bool) (fun m=>(@Int.rec (fun U=>Bool) (fun n=>Nat.beq m n) (fun U=>false) b)) (fun m=>(@Int.rec (fun U=>Bool) (fun U=>false) (fun n=>Nat.beq m n) b)) a)
def D4 (a b:Int)(k:Int→Bool):Bool:=(@Int.rec (fun U=>Bool) (fun m=>(@Int.rec (fun U=>Bool) (fun n=>k (.ofNat (Nat.add m n))) (fun n=>k (Int.subNatNat m (Nat.succ n))) b)) (fun m=>(@Int.rec (fun U=>Bool) (fun n=>k (Int.subNatNat n (Nat.succ m))) (fun n=>k (.negSucc (Nat.succ (Nat.add m n)))) b)) a)
def FE (a b:Int)(k:Int→Bool):Bool:=(@Int.rec (fun U=>Bool) (fun m=>(@Int.rec (fun U=>Bool) (fun n=>k (Int.subNatNat m n)) (fun n=>k (.ofNat (Nat.succ (Nat.add m n)))) b)) (fun m=>(@Int.rec (fun U=>Bool) (fun n=>k (.negSucc (Nat.add m n))) (fun n=>k (Int.subNatNat (Nat.succ n) (Nat.succ m))) b)) a)
def leq (ve:Vl→Vl→(Bool→Bool)→Bool)(l m:List Vl)(k:Bool→Bool):Bool:=@List.rec Vl (fun U=>List Vl→Bool) (fun m=>(ak (k true) (fun U U=>k false) m)) (fun x U ih m=>(ak (k false) (fun y r=>ve x y fun t=>(@Bool.rec (fun U=>Bool) (k false) (ih r) (t))) m)) l m
def veq (h:Hp)(n:Nat):Vl→Vl→(Bool→Bool)→Bool:=@Nat.rec (fun U=>Vl→Vl→(Bool→Bool)→Bool) (fun U U U=>false) (fun U self a b k=>(dS (o5 (eY (eX (jm (jX (wSy false (fun t w n j=>(wSy false (fun t2 w2 n2 j2=>(@Bool.rec (fun U=>Bool) (false) ((@Bool.rec (fun U=>Bool) (false) (k true) (Nat.beq j j2))) (Nat.beq t t2))) b)) a) (jX (pX (wGe (fw (pT (wSy (k false) (fun U U U U=>false) b) false b) false b) (fun U=>false) b) false b) (k true) b) a) (fun s=>(dS (jm (pX (wGe (fw (pT (wSy (k false) (fun U U U U=>false) b) false b) false b) (fun U=>false) b) false b) (fun t=>k ((@Bool.rec (fun U=>Bool) (Bool.not t) (t) (s)))) b) (fun U=>false) b)) a) (fun i=>(eX (pX (wGe (fw (pT (wSy (k false) (fun U U U U=>false) b) false b) false b) (fun U=>false) b) false b) (fun j=>aL h i fun o=>aL h j fun q=>(aW false (fun l=>(aW false (fun m=>leq self l m k) q)) o)) b)) a) (fun l=>(eY (pX (wGe (fw (pT (wSy (k false) (fun U U U U=>false) b) false b) false b) (fun U=>false) b) false b) (fun m=>leq self l m k) b)) a) (fun s=>(o5 (pX (wGe (fw (pT (wSy (k false) (fun U U U U=>false) b) false b) false b) (fun U=>false) b) false b) (fun t=>k (Nat.beq s t)) b)) a) (fun s=>(dS (jm (pX (wGe (fw (pT (wSy (k false) (fun U U U U=>false) b) false b) false b) (fun U=>false) b) false b) (fun U=>false) b) (fun t=>k (eqB s t)) b)) a)) n
def items (h:Hp)(v:Vl)(k:List Vl→Bool):Bool:=(eY (eX false (fun i=>aL h i fun o=>(aW false k o)) v) k v)
def nat? (v:Vl)(k:Nat→Bool):Bool:=(dS false (fun i=>(@Int.rec (fun U=>Bool) (k) (fun U=>false) i)) v)
def bool? (v:Vl)(k:Bool→Bool):Bool:=(jm false k v)
def ifV (v:Vl)(x y:Bool):Bool:=(jm false (fun b=>(@Bool.rec (fun U=>Bool) (y) (x) (b))) v)
def pK (v:Vl)(b:Bool):Bool:=(jX false b v)
def ed (v:Vl)(k:Nat→Bool):Bool:=(o5 false k v)
def gq (v:Vl)(k:Nat→Bool):Bool:=(eX false k v)
def B1 (v:Vl)(k:Vl→Bool):Bool:=(@Vl.rec (fun U=>Bool) (fun U=>Unit) (k .none) (fun b=>k (.bool b)) (fun b=>k (.int b)) (fun b=>k (.ge b)) (fun b=>k (.str b)) ((fun l_ U=>(fun b=>k (.tup b)) l_)) (fun b=>k (.ref b)) (fun b=>k (.cls b)) (fun b=>k (.fn b)) (fun b=>k (.bt b)) (k .src) (false) (k .any) (fun a b c d=>k (.sy a b c d)) () (fun U U U U=>()) v)
def rV (l:List Vl)(i:Vl)(k:Vl→Bool):Bool:=(dS false (fun i=>(@Int.rec (fun U=>Bool) (fun j=>jZ l j k) (fun j=>jZ (fU l) j k) i)) i)
def xj (h:Hp)(v i:Vl)(k:Vl→Bool):Bool:=(o5 (eY (eX false (fun r=>aL h r fun o=>(aW (bO false (fun d=>ed i fun s=>cI d s false k) o) (fun l=>rV l i k) o)) v) (fun l=>rV l i k) v) (fun s=>nat? i fun j=>(@Bool.rec (fun U=>Bool) (false) (k (.str (FI s j))) (Nat.ble (Nat.succ j) (ee s)))) v)
def isNone (v:Vl)(k:Bool→Bool):Bool:=(jX (fw (pT (wSy (k false) (fun U U U U=>false) v) false v) false v) (k true) v)
def isV (a b:Vl)(k:Bool→Bool):Bool:=(jX false (isNone a k) b)
def isIn (h:Hp)(a:Vl)(l:List Vl)(k:Bool→Bool):Bool:=@List.rec Vl (fun U=>Bool) (k false) (fun x U ih=>veq h 40 x a fun t=>(@Bool.rec (fun U=>Bool) (ih) (k true) (t))) l
def allB (p:Vl→Bool)(l:List Vl):Bool:=@List.rec Vl (fun U=>Bool) true (fun v U ih=>(@Bool.rec (fun U=>Bool) (false) (ih) (p v))) l
def dat (h:Hp)(n:Nat):Vl→Bool:=@Nat.rec (fun U=>Vl→Bool) (fun U=>false) (fun n self a=>(dS (o5 (eY (eX (jm (jX (wSy false (fun U U U U=>Nat.ble 10 n) a) true a) (fun U=>true) a) (fun i=>aL h i fun o=>(aW false (fun l=>allB self l) o)) a) (fun l=>allB self l) a) (fun U=>true) a) (fun U=>true) a)) n
def eqG (h:Hp)(a b:Vl)(k:Bool→Bool):Bool:=(@Bool.rec (fun U=>Bool) (false) ((@Bool.rec (fun U=>Bool) (false) (veq h 40 a b k) (dat h 40 b))) (dat h 40 a))
def inG (h:Hp)(a:Vl)(l:List Vl)(k:Bool→Bool):Bool:=(@Bool.rec (fun U=>Bool) (false) ((@Bool.rec (fun U=>Bool) (false) (isIn h a l k) (allB (dat h 40) l))) (dat h 40 a))
def contains (h:Hp)(a b:Vl)(k:Bool→Bool):Bool:=(eY (eX false (fun r=>aL h r fun o=>(aW (bO false (fun d=>ed a fun s=>cI d s (k false) fun U=>k true) o) (fun l=>inG h a l k) o)) b) (fun l=>inG h a l k) b)
def eqV (h:Hp)(a b:Vl)(k:Bool→Bool):Bool:=(eY (wGe (eqG h a b k) (fun n=>(dS false (fun j=>(@Bool.rec (fun U=>Bool) (false) (k false) (ltB j (.ofNat n)))) b)) a) (fun U=>eqG h a b k) a)
def ltV (a b:Vl)(k:Bool→Bool):Bool:=(dS (wGe false (fun n=>(dS false (fun j=>(@Bool.rec (fun U=>Bool) (k false) (false) (ltB (.ofNat n) j))) b)) a) (fun i=>(dS false (fun j=>k (ltB i j)) b)) a)
def gtV (a b:Vl)(k:Bool→Bool):Bool:=(dS (wSy false (fun t w n j=>(dS false (fun i=>(@Bool.rec (fun U=>Bool) (false) ((@Bool.rec (fun U=>Bool) (false) ((@Bool.rec (fun U=>Bool) (false) (k (Nat.beq w 1)) (Nat.beq j n))) (Nat.beq t 3))) (eqB i (.ofNat 256)))) b)) a) (fun i=>(dS false (fun j=>k (ltB j i)) b)) a)
noncomputable def neg (k:Bool→Bool):Bool→Bool:=fun t=>k (Bool.not t)
abbrev Cmp:=Hp→Vl→Vl→(Bool→Bool)→Bool
def HI:Cmp:=fun h a b k=>eqV h a b k
def GJ:Cmp:=fun h a b k=>eqV h a b (neg k)
def HY:Cmp:=fun h a b k=>ltV a b k
def GI:Cmp:=fun h a b k=>gtV a b k
def GB:Cmp:=fun h a b k=>isV a b k
def HP:Cmp:=fun h a b k=>isV a b (neg k)
def Hj:Cmp:=fun h a b k=>contains h a b k
def Hg:Cmp:=fun h a b k=>contains h a b (neg k)
abbrev Bin:=Hp→Vl→Vl→KV→Bool
def DX:Bin:=fun h a b k=>(dS (o5 (eX false (fun r=>gq b fun q=>aL h r fun x=>aL h q fun y=>(aW false (fun l=>(aW false (fun m=>mkL (gU l m) h k) y)) x)) a) (fun s=>ed b fun t=>mkS (lP s t) h k) a) (fun i=>(dS false (fun j=>D4 i j fun n=>k (.int n) h) b)) a)
def Gf:Bin:=fun h a b k=>(dS false (fun i=>(dS false (fun j=>FE i j fun n=>k (.int n) h) b)) a)
def GK:Bin:=fun h a b k=>(dS (eY (wSy false (fun t w n j=>(wSy false (fun t2 w2 n2 j2=>(@Bool.rec (fun U=>Bool) (false) ((@Bool.rec (fun U=>Bool) (false) ((@Bool.rec (fun U=>Bool) (false) (k (.sy 3 w n (Nat.succ j)) h) (Nat.beq j j2))) (Nat.beq t2 0))) (Nat.beq t 3))) b)) a) (fun l=>(ak false (fun v r=>(ak (nat? b fun n=>(@Bool.rec (fun U=>Bool) (false) (k (.tup (yY v n)) h) (Nat.ble n 1000))) (fun U U=>false) r)) l)) a) (fun i=>(@Int.rec (fun U=>Bool) (fun m=>(dS (wSy false (fun t w n j=>(@Bool.rec (fun U=>Bool) (false) ((@Bool.rec (fun U=>Bool) (false) ((@Bool.rec (fun U=>Bool) (false) (k (.sy 3 w n 1) h) (Nat.beq j 0))) (Nat.beq t 0))) (Nat.beq m 1))) b) (fun x=>(@Int.rec (fun U=>Bool) (fun n=>(@Bool.rec (fun U=>Bool) (false) (k (.int (.ofNat (Nat.mul m n))) h) (Nat.ble (Nat.mul m n) 1152921504606846976))) (fun U=>false) x)) b)) (fun U=>false) i)) a)
def ll (h:Hp)(v:Vl)(k:Sq→Bool):Bool:=(eY (eX false (fun i=>aL h i fun o=>(aW false (fun U=>k (.lst i)) o)) v) (fun l=>k (.tup l)) v)
def eAt (l:List Vl)(n:Nat)(ks:Vl→Bool)(ke:Bool):Bool:=@List.rec Vl (fun U=>Nat→Bool) (fun U=>ke) (fun a U ih n=>@Nat.rec (fun U=>Bool) (ks a) (fun j U=>ih j) n) l n
def jL (h:Hp)(s:Sq)(n:Nat)(ks:Vl→Bool)(ke:Bool):Bool:=@Sq.rec (fun U=>Bool) (fun l=>eAt l n ks ke) (fun i=>aL h i fun o=>(aW false (fun l=>eAt l n ks ke) o)) s
def nY (h:Hp)(i:It)(n:Nat)(ks:Vl→Bool)(ke:Bool):Bool:=@It.rec (fun U=>Bool) (fun a=>jL h a n ks ke) (fun a=>jL h a n (fun v=>ks (.tup [.int (.ofNat n),v])) ke) (fun g a b=>aL h g fun o=>(Cv false (jL h a n (fun v=>jL h b n (fun w=>ks (.tup [v,w])) ke) (jL h b n (fun U=>ke) ke)) o)) (fun m=>(@Bool.rec (fun U=>Bool) (ke) (ks (.int (.ofNat n))) (Nat.ble (Nat.succ n) m))) i
def joinR (sep:Nat)(l:List Vl)(k:Nat→Bool):Bool:=@List.rec Vl (fun U=>(Nat→Bool)→Bool) (fun k=>k 0) (fun a r ih k=>ed a fun s=>(ak (k s) (fun U U=>ih fun t=>k (lP s (lP sep t))) r)) l k
def nQ (l:List Vl)(acc:List (Nat × Vl))(k:List (Nat × Vl)→Bool):Bool:=@List.rec Vl (fun U=>List (Nat × Vl)→Bool) k (fun p U ih acc=>(eY false (fun q=>(ak false (fun x r=>(ak false (fun y q=>(ak (ed x fun s=>ih (dput s y acc)) (fun U U=>false) q)) r)) q)) p)) l acc
def Gn (l:List Vl)(k:Int→Bool):Bool:=@List.rec Vl (fun U=>Nat→Bool) (fun acc=>k (.ofNat acc)) (fun p U ih acc=>nat? p fun n=>(@Bool.rec (fun U=>Bool) (false) (ih (Nat.add acc n)) (Nat.ble n 1000))) l 0
abbrev Bi:=List Vl→Hp→KV→Bool
def Ip:Bi:=fun l h k=>(ak false (fun x r=>(ak (items h x fun m=>k (.int (.ofNat (eZ m))) h) (fun U U=>false) r)) l)
def Hi:Bi:=fun l h k=>(ak false (fun x r=>(ak (bool? x fun t=>k (.int (.ofNat (@Bool.rec (fun U=>Nat) (0) (1) (t)))) h) (fun U U=>false) r)) l)
def Hh:Bi:=fun l h k=>(ak false (fun x r=>(ak (nat? x fun n=>(@Bool.rec (fun U=>Bool) (false) (k (.str (Nat.add n 48)) h) (Nat.ble n 9))) (fun U U=>false) r)) l)
def mS:Bi:=fun l h k=>(ak false (fun x r=>(ak false (fun y q=>(ak (wBt false (fun n=>(@Bool.rec (fun U=>Bool) (false) ((dS (jm false (fun U=>k (.bool true) h) x) (fun U=>k (.bool false) h) x)) (Nat.beq n 12))) y) (fun U U=>false) q)) r)) l)
def HZ:Bi:=fun l h k=>(ak false (fun x r=>(ak (gq x fun r=>aL h r fun o=>(aW false (fun m=>Gn m fun s=>k (.int s) h) o)) (fun U U=>false) r)) l)
def tZ:Bi:=fun l h k=>(ak false (fun x r=>(ak (gq x fun r=>aL h r fun o=>(bO false (fun d=>(@List.rec (Nat × Vl) (fun U=>Bool) (bM h (.list []) fun i h=>k (.ref i) h) (fun a_ r_ U=>(fun U U=>false) a_ r_) d)) o)) (fun U U=>false) r)) l)
def xw:Bi:=fun l h k=>(ak false (fun x r=>(ak (items h x fun m=>mkT m h k) (fun U U=>false) r)) l)
def vZ:Bi:=fun l h k=>(ak false (fun x r=>(ak (eY (eX false (fun i=>aL h i fun o=>(aW (bO false (fun d=>mkL (List.map (fun p=>Vl.str p.1) d) h k) o) (fun m=>mkL m h k) o)) x) (fun m=>mkL m h k) x) (fun U U=>false) r)) l)
def Cu:Bi:=fun l h k=>(ak false (fun x r=>(ak (gq x fun r=>aL h r fun o=>(bO false (fun d=>mkD d h k) o)) (fun U U=>false) r)) l)
def builtin (b:Nat):Bi:=(@Bool.rec (fun U=>Bi) ((@Bool.rec (fun U=>Bi) ((@Bool.rec (fun U=>Bi) ((@Bool.rec (fun U=>Bi) ((@Bool.rec (fun U=>Bi) ((@Bool.rec (fun U=>Bi) ((@Bool.rec (fun U=>Bi) ((@Bool.rec (fun U=>Bi) ((@Bool.rec (fun U=>Bi) (fun U U U=>false) (Cu) (Nat.beq b 9))) (vZ) (Nat.beq b 8))) (xw) (Nat.beq b 7))) (tZ) (Nat.beq b 6))) (HZ) (Nat.beq b 5))) (mS) (Nat.beq b 4))) (Hh) (Nat.beq b 3))) (Hi) (Nat.beq b 2))) (Ip) (Nat.beq b 1))
def tu (a i:Nat)(l:List Vl)(args:List Vl)(h:Hp)(k:KV):Bool:=(@Bool.rec (fun U=>Bool) ((@Bool.rec (fun U=>Bool) ((@Bool.rec (fun U=>Bool) (false) ((ak false (fun x r=>(ak (items h x fun m=>small (gU l m) (aX h i (.list (gU l m)) (k .none))) (fun U U=>false) r)) args)) (Nat.beq a 3465715465317))) ((ak (@List.rec Vl (fun U=>Bool) false (fun v r U=>aX h i (.list (fU r)) (k v)) (fU l)) (fun U U=>false) args)) (Nat.beq a 1849328))) ((ak false (fun x r=>(ak (small (gU l [x]) (aX h i (.list (gU l [x])) (k .none))) (fun U U=>false) r)) args)) (Nat.beq a 3465715398753))
def jJ (m d:List (Nat × Vl)):List (Nat × Vl):=@List.rec (Nat × Vl) (fun U=>List (Nat × Vl)→List (Nat × Vl)) (fun d=>d) (fun p U ih d=>ih (dput p.1 p.2 d)) m d
def sQ (a i:Nat)(d:List (Nat × Vl))(args:List Vl)(h:Hp)(k:KV):Bool:=(@Bool.rec (fun U=>Bool) ((@Bool.rec (fun U=>Bool) ((@Bool.rec (fun U=>Bool) (false) ((ak false (fun x r=>(ak (gq x fun r=>(@Bool.rec (fun U=>Bool) (aL h r fun o=>(bO false (fun m=>small (jJ m d) (aX h i (.dict (jJ m d)) (k .none))) o)) (false) (Nat.beq r i))) (fun U U=>false) r)) args)) (Nat.beq a 3501677164661))) ((ak false (fun x r=>ed x fun s=>(ak false (fun w q=>(ak (cI d s (k w h) fun v=>aX h i (.dict (sx s d)) (k v)) (fun U U=>false) q)) r)) args)) (Nat.beq a 1849328))) ((ak false (fun x r=>ed x fun s=>(ak (cI d s (k .none h) fun v=>k v h) (fun w q=>(ak (cI d s (k w h) fun v=>k v h) (fun U U=>false) q)) r)) args)) (Nat.beq a 1913575))
def tJ (a s:Nat)(args:List Vl)(h:Hp)(k:KV):Bool:=(@Bool.rec (fun U=>Bool) ((@Bool.rec (fun U=>Bool) (false) ((ak false (fun x r=>(ak (ed x fun t=>k (.bool (yi s t)) h) (fun U U=>false) r)) args)) (Nat.beq a 967649009836689488499))) ((ak false (fun x r=>(ak (eY false (fun m=>joinR s m fun t=>mkS t h k) x) (fun U U=>false) r)) args)) (Nat.beq a 232421354))
abbrev Rt:=Vl→List Vl→Hp→KV→KE→Bool
abbrev CX:=Rt→Fm→Hp→KV→KE→Bool
abbrev CL:=Rt→Fm→Hp→KL→KE→Bool
abbrev CI:=Rt→Fm→Hp→(It→Hp→Bool)→KE→Bool
abbrev CS:=Rt→Fm→Hp→KF→KF→KV→KX→Bool
abbrev CT:=Rt→Fm→Vl→Hp→KF→KX→Bool
inductive Fd where
 | mk (ns nc:Nat)(ps:List CT)(df:List Vl)(b:CS)
inductive Kl where
 | mk (init:Option Nat)(exc:Bool)(ms:List (Nat × Nat))(sup:List Nat)
noncomputable def aK:Nat:=447768031982317
noncomputable def il:Nat:=245102707
section
variable (C:Tri Kl)
def jK (c:Nat)(k:Option Nat→Bool→List (Nat × Nat)→List Nat→Bool):Bool:=(@Option.rec Kl (fun U=>Bool) (false) (fun x=>@Kl.rec (fun U=>Bool) k x) (Tri.get C c))
def fA (c:Nat)(l:List Vl)(h:Hp)(k:Nat→Hp→Bool):Bool:=(ak false (fun m r=>(ak (bM h (.inst c [(aK,m),(il,.int 0)]) k) (fun s q=>(ak (bM h (.inst c [(aK,m),(il,s)]) k) (fun U U=>false) q)) r)) l)
def eu (r:Rt)(v:Vl)(l:List Vl)(h:Hp)(k:KV)(e:KE):Bool:=(eX (wBt (wFn (Ht false (fun c=>jK C c fun init exc U U=>(@Bool.rec (fun U=>Bool) (bM h (.inst c []) fun i h=>(@Option.rec Nat (fun U=>Bool) (false) (fun f=>r (.fn f) (.ref i :: l) h (fun v h=>pK v (k (.ref i) h)) e) init)) (false) (exc))) v) (fun i=>r (.fn i) l h k e) v) (fun b=>builtin b l h k) v) (fun i=>aL h i fun o=>(xd false (fun U U=>r (.ref i) l h k e) o)) v)
def CU (v:Vl)(a:Nat)(h:Hp)(k:Mt→Bool):Bool:=(o5 (eX false (fun i=>aL h i fun o=>(aW (bO (eN false (fun c l=>jK C c fun U x ms U=>(@Bool.rec (fun U=>Bool) (cI l a (pB ms a fun f=>k (.f f)) (fun U=>false)) (false) (x))) o) (fun U=>@Bool.rec (fun U=>Bool) ((@Bool.rec (fun U=>Bool) ((@Bool.rec (fun U=>Bool) (false) (k .d) (Nat.beq a 3501677164661))) (k .d) (Nat.beq a 1849328))) (k .d) (Nat.beq a 1913575)) o) (fun U=>@Bool.rec (fun U=>Bool) ((@Bool.rec (fun U=>Bool) ((@Bool.rec (fun U=>Bool) (false) (k .l) (Nat.beq a 3465715465317))) (k .l) (Nat.beq a 1849328))) (k .l) (Nat.beq a 3465715398753)) o)) v) (fun U=>@Bool.rec (fun U=>Bool) ((@Bool.rec (fun U=>Bool) (false) (k .s) (Nat.beq a 967649009836689488499))) (k .s) (Nat.beq a 232421354)) v)
def runM (r:Rt)(m:Mt)(v:Vl)(l:List Vl)(a:Nat)(h:Hp)(k:KV)(e:KE):Bool:=(@Mt.rec (fun U=>Bool) (ed v fun s=>tJ a s l h k) (gq v fun i=>aL h i fun o=>(aW false (fun m=>tu a i m l h k) o)) (gq v fun i=>aL h i fun o=>(bO false (fun m=>sQ a i m l h k) o)) (fun n=>r (.fn n) (v :: l) h k e) m)
def sr (v:Vl)(a:Nat)(h:Hp)(k:Vl→Bool):Bool:=(eX false (fun i=>aL h i fun o=>(eN false (fun c l=>jK C c fun U x ms U=>(@Bool.rec (fun U=>Bool) (cI l a (pB ms a fun U=>k .any) k) (false) (x))) o)) v)
end
def nq (f:Fm)(i:Nat)(k:Vl→Bool):Bool:=@Fm.rec (fun U=>Bool) (fun s U=>jZ s i (fun v=>B1 v k)) f
def FY (f:Fm)(i:Nat)(k:Nat→Bool):Bool:=@Fm.rec (fun U=>Bool) (fun U c=>jZ c i k) f
def IY (f:Fm)(i:Nat)(h:Hp)(k:Vl→Bool):Bool:=FY f i fun j=>aL h j fun o=>(oCell false (fun v=>B1 v k) o)
def CQ (h:Hp)(v:Vl)(k:KV):Bool:=(eY (eX false (fun i=>aL h i fun o=>(aW false (fun l=>mkL (fU l) h k) o)) v) (fun l=>mkT (fU l) h k) v)
def y4 (g:List Vl→Nat→List Vl)(h:Hp)(v n:Vl)(k:KV):Bool:=(eX false (fun i=>aL h i fun o=>(aW false (fun l=>nat? n fun n=>mkL (g l n) h k) o)) v)
def aR (n:Nat)(h:Hp)(k:List Nat→Hp→Bool):Bool:=@Nat.rec (fun U=>Hp→(List Nat→Hp→Bool)→Bool) (fun h k=>k [] h) (fun U ih h k=>bM h (.cell .unset) fun i h=>ih h fun l h=>k (i :: l) h) n h k
def je (n:Nat)(k:Nat→Bool):Bool:=@Nat.rec (fun U=>Bool) true (fun m ih=>(@Bool.rec (fun U=>Bool) (false) (ih) (k m))) n
def wo (l:List Vl)(k:Vl→Bool):Bool:=@List.rec Vl (fun U=>Bool) true (fun v U ih=>(@Bool.rec (fun U=>Bool) (false) (ih) (k v))) l
def jn (l m:List Nat):List Nat:=@List.rec Nat (fun U=>List Nat) m (fun a U ih=>a :: ih) l
noncomputable def xk (v:Vl):CX:=fun U U h k U=>k v h
def Iw (i:Nat):CX:=fun U f h k U=>nq f i fun v=>k v h
def HR (i:Nat):CX:=fun U f h k U=>IY f i h fun v=>k v h
def C6 (C:Tri Kl)(x:CX)(a:Nat):CX:=fun r f h k e=>x r f h (fun v h=>sr C v a h fun w=>k w h) e
def Gl (a b:CX):CX:=fun r f h k e=>a r f h (fun v h=>b r f h (fun w h=>xj h v w fun u=>k u h) e) e
def Cg (a:CX):CX:=fun r f h k e=>a r f h (fun v h=>CQ h v k) e
def CO (a b:CX):CX:=fun r f h k e=>a r f h (fun v h=>b r f h (fun w h=>y4 xO h v w k) e) e
def Gq (a b:CX):CX:=fun r f h k e=>a r f h (fun v h=>b r f h (fun w h=>y4 mj h v w k) e) e
noncomputable def eE:CL:=fun U U h k U=>k [] h
noncomputable def bz (x:CX)(l:CL):CL:=fun r f h k e=>x r f h (fun v h=>l r f h (fun vs h=>k (v :: vs) h) e) e
def vG (l:CL):CX:=fun r f h k e=>l r f h (fun vs h=>mkT vs h k) e
def AS (l:CL):CX:=fun r f h k e=>l r f h (fun vs h=>mkL vs h k) e
def Ag (l:CL):CX:=fun r f h k e=>bM h (.dict []) fun i h=>l r f h (fun vs h=>aL h i fun o=>(bO false (fun d=>nQ vs d fun m=>small m (aX h i (.dict m) fun h=>k (.ref i) h)) o)) e
noncomputable def rg (o:Bin)(a b:CX):CX:=fun r f h k e=>a r f h (fun v h=>b r f h (fun w h=>o h v w k) e) e
noncomputable def EG (o:Cmp)(a b:CX):CX:=fun r f h k e=>a r f h (fun v h=>b r f h (fun w h=>o h v w fun t=>k (.bool t) h) e) e
def xP (a:CX):CX:=fun r f h k e=>a r f h (fun v h=>bool? v fun t=>k (.bool (Bool.not t)) h) e
noncomputable def C2:CX:=fun U U h k U=>k (.bool true) h
def Dx (a b:CX):CX:=fun r f h k e=>a r f h (fun v h=>ifV v (b r f h k e) (k (.bool false) h)) e
def xor (a b:CX):CX:=fun r f h k e=>a r f h (fun v h=>ifV v (k (.bool true) h) (b r f h k e)) e
def Iy (c a b:CX):CX:=fun r f h k e=>c r f h (fun v h=>ifV v (a r f h k e) (b r f h k e)) e
def zE (C:Tri Kl)(g:CX)(l:CL):CX:=fun r f h k e=>g r f h (fun v h=>l r f h (fun vs h=>eu C r v vs h k e) e) e
def CW (C:Tri Kl)(o:CX)(a:Nat)(l:CL):CX:=fun r f h k e=>o r f h (fun v h=>CU C v a h fun m=>l r f h (fun vs h=>runM r m v vs a h k e) e) e
def iit (x:CX):CI:=fun r f h k e=>x r f h (fun v h=>ll h v fun s=>k (.one s) h) e
def CD (x:CX):CI:=fun r f h k e=>x r f h (fun v h=>ll h v fun s=>k (.enm s) h) e
def HG (a b:CX):CI:=fun r f h k e=>a r f h (fun v h=>b r f h (fun w h=>ll h v fun s=>ll h w fun t=>bM h .eW fun g h=>k (.zip g s t) h) e) e
def EZ (x:CX):CI:=fun r f h k e=>x r f h (fun v h=>nat? v fun n=>@Bool.rec (fun U=>Bool) false (k (.rng n) h) (Nat.ble n 1000)) e
def cV (i:Nat):CT:=fun U f v h k U=>@Fm.rec (fun U=>Bool) (fun s c=>k (.mk (lU v s i) c) h) f
def nF (i:Nat):CT:=fun U f v h k U=>FY f i fun j=>aL h j fun o=>(oCell false (fun U=>aX h j (.cell v) fun h=>k f h) o)
abbrev CTs:=Rt→Fm→List Vl→Hp→KF→KX→Bool
def BW:CTs:=fun U f l h k U=>(ak (k f h) (fun U U=>false) l)
def sC (t:CT)(ts:CTs):CTs:=fun rt f l h k e=>(ak false (fun v vs=>t rt f v h (fun f h=>ts rt f vs h k e) e) l)
def Dp (n:Nat)(ts:CTs):CT:=fun r f v h k e=>(eY false (fun l=>(@Bool.rec (fun U=>Bool) (false) (ts r f l h k e) (Nat.beq (eZ l) n))) v)
def HF (n:Nat)(ts:CTs)(x:CX):CS:=fun r f h kn U U ke=>x r f h (fun v h=>(eY false (fun l=>(@Bool.rec (fun U=>Bool) (false) (ts r f (fU l) h kn ke) (Nat.beq (eZ l) n))) v)) (fun i h=>ke i f h)
def Cw (C:Tri Kl)(x:CX)(a:Nat):CT:=fun r f v h k e=>x r f h (fun o h=>gq o fun i=>aL h i fun ob=>(eN false (fun c l=>jK C c fun U q U U=>(@Bool.rec (fun U=>Bool) (small (dput a v l) (aX h i (.inst c (dput a v l)) fun h=>k f h)) (false) (q))) ob)) (fun i h=>e i f h)
def GX (x y:CX):CT:=fun r f v h k e=>x r f h (fun o h=>y r f h (fun w h=>gq o fun i=>aL h i fun ob=>(aW (bO false (fun m=>ed w fun s=>small (dput s v m) (aX h i (.dict (dput s v m)) fun h=>k f h)) ob) (fun m=>nat? w fun n=>(@Bool.rec (fun U=>Bool) (false) (aX h i (.list (lU v m n)) fun h=>k f h) (Nat.ble (Nat.succ n) (eZ m)))) ob)) (fun i h=>e i f h)) (fun i h=>e i f h)
def Cs (r:Rt)(t:CT)(c x:CX)(e:KE)(it:It)(k:KL)(m n:Nat)(f:Fm)(acc:List Vl)(h:Hp):Bool:=@Nat.rec (fun U=>Nat→Fm→List Vl→Hp→Bool) (fun U U U U=>false) (fun U ih n f acc h=>nY h it n (fun v=>t r f v h (fun f h=>c r f h (fun b h=>ifV b (x r f h (fun w h=>ih (Nat.succ n) f (w :: acc) h) e) (ih (Nat.succ n) f acc h)) e) (fun i U h=>e i h)) (k (fU acc) h)) m n f acc h
noncomputable def aM (n:Nat):List Vl:=yY .unset n
def qm (x:CX)(t:CT)(it:CI)(c:CX)(ns:Nat):CX:=fun r f h k e=>it r f h (fun i h=>@Fm.rec (fun U=>Bool) (fun U c0=>Cs r t c x (fun U U=>false) i (fun m h=>mkL m h k) 2000 0 (.mk (aM ns) c0) [] h) f) e
noncomputable def jo:CX:=fun U U U U U=>false
noncomputable def iK:CS:=fun U U U U U U U=>false
def pick (c:List Nat)(l:List Nat)(k:List Nat→Bool):Bool:=@List.rec Nat (fun U=>(List Nat→Bool)→Bool) (fun k=>k []) (fun i U ih k=>jZ c i fun j=>ih fun js=>k (j :: js)) l k
def G1 (g:Nat)(l:List Nat):CX:=fun U f h k U=>@Fm.rec (fun U=>Bool) (fun U c=>pick c l fun js=>bM h (.cL g js) fun i h=>k (.ref i) h) f
def ym (v:Vl)(b:Bool):Bool:=(pX false b v)
def inB (n:Nat)(b:Bool):Bool:=(@Bool.rec (fun U=>Bool) (false) ((@Bool.rec (fun U=>Bool) (false) (b) (Nat.ble n 1000))) (Nat.ble 1 n))
def Av (a x:CX)(g:Nat→(Vl→Hp→Bool)→Hp→Bool):CX:=fun r f h k e=>a r f h (fun s h=>ym s (x r f h (fun v h=>nat? v fun n=>inB n (g n k h)) e)) e
def xZ (a x:CX):CX:=Av a x fun U k h=>(@Bool.rec (fun U=>Bool) (false) (k (.bool false) h) (k (.bool true) h))
def HE (a x:CX):CX:=Av a x fun n k h=>je n fun i=>k (.int (.ofNat i)) h
def wJ (m:Nat)(a x:CX):CX:=Av a x fun n k h=>(@Bool.rec (fun U=>Bool) (false) (je m fun i=>k (.int (.ofNat i)) h) (k (.ge m) h))
def Gp (a:CX)(l:CL):CX:=fun r f h k e=>a r f h (fun s h=>ym s (l r f h (fun vs h=>(ak false (fun U U=>small vs (wo vs fun v=>k v h)) vs)) e)) e
def EP (a b:CX)(kn:Hp→Bool)(k1:Vl→Vl→Hp→Bool):Rt→Fm→Hp→KE→Bool:=fun r f h e=>a r f h (fun v h=>b r f h (fun w h=>items h v fun l=>items h w fun m=>(ak (ak (kn h) (fun U U=>false) m) (fun x r=>(ak (ak false (fun y q=>(ak (k1 x y h) (fun U U=>false) q)) m) (fun U U=>false) r)) l)) e) e
def CG (a b:CX):CX:=fun r f h k e=>EP a b (fun h=>mkD [] h k) (fun x y h=>ed x fun s=>mkD [(s,y)] h k) r f h e
def Ct (a b:CX):CX:=fun r f h k e=>EP a b (fun U=>false) (fun x y h=>mkL [.tup [x,y]] h k) r f h e
noncomputable def wA:CS:=fun U f h kn U U U=>kn f h
noncomputable def n9 (a b:CS):CS:=fun r f h kn kc kr ke=>a r f h (fun f h=>b r f h kn kc kr ke) kc kr ke
noncomputable def qG (t:CT)(x:CX):CS:=fun r f h kn U U ke=>x r f h (fun v h=>t r f v h kn ke) (fun i h=>ke i f h)
noncomputable def sex (x:CX):CS:=fun r f h kn U U ke=>x r f h (fun U h=>kn f h) (fun i h=>ke i f h)
def Hx (c:CX)(a b:CS):CS:=fun r f h kn kc kr ke=>c r f h (fun v h=>ifV v (a r f h kn kc kr ke) (b r f h kn kc kr ke)) (fun i h=>ke i f h)
def xR (r:Rt)(t:CT)(b:CS)(it:It)(kn:KF)(kr:KV)(ke:KX)(m n:Nat)(f:Fm)(h:Hp):Bool:=@Nat.rec (fun U=>Nat→Fm→Hp→Bool) (fun U U U=>false) (fun U ih n f h=>nY h it n (fun v=>t r f v h (fun f h=>b r f h (fun f h=>ih (Nat.succ n) f h) (fun f h=>ih (Nat.succ n) f h) kr ke) ke) (kn f h)) m n f h
def Ab (t:CT)(it:CI)(b:CS):CS:=fun r f h kn U kr ke=>it r f h (fun i h=>xR r t b i kn kr ke 2000 0 f h) (fun i h=>ke i f h)
def Ha (c:CX)(b:CS):CS:=fun r f h kn U kr ke=>@Nat.rec (fun U=>Fm→Hp→Bool) (fun U U=>false) (fun U ih f h=>c r f h (fun v h=>ifV v (b r f h (fun f h=>ih f h) (fun f h=>ih f h) kr ke) (kn f h)) (fun i h=>ke i f h)) 4000 f h
noncomputable def kg (x:CX):CS:=fun r f h U U kr ke=>x r f h kr (fun i h=>ke i f h)
def GS (c:Nat)(l:CL):CS:=fun r f h U U U ke=>l r f h (fun vs h=>fA c vs h fun i h=>ke i f h) (fun i h=>ke i f h)
noncomputable def xu:CS:=fun U f h U kc U U=>kc f h
noncomputable def Gy (t:CT):CS:=fun r f h kn U U ke=>t r f .any h kn ke
abbrev CH:=Rt→Nat→Nat→List Nat→Fm→Hp→KF→KF→KV→KX→Bool
noncomputable def Ir:CH:=fun U i U U f h U U U ke=>ke i f h
def nin (a:Nat)(l:List Nat):Bool:=@List.rec Nat (fun U=>Bool) false (fun b U ih=>(@Bool.rec (fun U=>Bool) (ih) (true) (Nat.beq a b))) l
def isExc (x c:Nat)(sup:List Nat)(a b:Bool):Bool:=(@Bool.rec (fun U=>Bool) ((@Bool.rec (fun U=>Bool) (b) (a) (nin x sup))) (a) (Nat.beq x c))
def GF (x:Nat)(v:Vl)(n:CH):CH:=fun r i c sup f h kn kc kr ke=>isExc x c sup (kr v h) (n r i c sup f h kn kc kr ke)
def Ge (x:Nat)(n:CH):CH:=fun r i c sup f h kn kc kr ke=>isExc x c sup (kc f h) (n r i c sup f h kn kc kr ke)
def G9 (x y q:Nat)(n:CH):CH:=fun r i c sup f h kn kc kr ke=>isExc x c sup ((@Bool.rec (fun U=>Bool) (aL h i fun o=>(eN false (fun U l=>cI l aK false fun m=>nq f q fun s=>fA (Nat.add y 1000) [m,s] h fun j h=>ke j f h) o)) (false) (Nat.ble 1000 c))) (n r i c sup f h kn kc kr ke)
def Hs (C:Tri Kl)(b:CS)(hs:CH):CS:=fun r f h kn kc kr ke=>b r f h kn kc kr (fun i f h=>aL h i fun o=>(eN false (fun c U=>jK C c fun U U U sup=>hs r i c sup f h kn kc kr ke) o))
noncomputable def OR_:Nat:=14703
noncomputable def BO:Nat:=1914092
noncomputable def m8:Nat:=31381501923
noncomputable def fp:Nat:=213693160
noncomputable def Cz:Nat:=15
noncomputable def Dg:Nat:=33
noncomputable def ji:Vl:=.tup [.str 1914729,.str 7285]
noncomputable def tX (f:Nat→Vl)(n:Nat):List Vl:=@Nat.rec (fun U=>List Vl→List Vl) (fun a=>a) (fun m ih a=>ih (f m :: a)) n []
noncomputable def orV (s:Nat):Vl:=.tup [.str OR_,.int 1,.tup (tX (fun v=>.tup [.str BO,.int 1,.int (.ofNat v)]) s)]
noncomputable def tyV (s:Nat):Vl:=.tup [.str OR_,ji,.tup (tX (fun v=>.tup [.str m8,ji,.int (.ofNat v)]) s)]
noncomputable def hJ (t s:Nat):Vl:=@Nat.rec (fun U=>Vl) (.int (.ofNat s)) (fun t U=>@Nat.rec (fun U=>Vl) (orV s) (fun U U=>tyV s) t) t
def lEq (f:Vl→Vl→Bool)(l m:List Vl):Bool:=@List.rec Vl (fun U=>List Vl→Bool) (fun m=>(ak true (fun U U=>false) m)) (fun x U ih m=>(ak false (fun y r=>(@Bool.rec (fun U=>Bool) (false) (ih r) (f x y))) m)) l m
def vEq:Vl→Vl→Bool:=fun a=>@Vl.rec (fun U=>Vl→Bool) (fun U=>List Vl→Bool) (fun b=>(jX false true b)) (fun s b=>(jm false (fun t=>(@Bool.rec (fun U=>Bool) (Bool.not t) (t) (s))) b)) (fun i b=>(dS false (fun j=>eqB i j) b)) (fun i b=>(wGe false (fun j=>Nat.beq i j) b)) (fun i b=>(o5 false (fun j=>Nat.beq i j) b)) (fun U ih b=>(eY false (fun m=>ih m) b)) (fun i b=>(eX false (fun j=>Nat.beq i j) b)) (fun i b=>(Ht false (fun j=>Nat.beq i j) b)) (fun i b=>(wFn false (fun j=>Nat.beq i j) b)) (fun i b=>(wBt false (fun j=>Nat.beq i j) b)) (fun b=>(pX false true b)) (fun b=>(fw false true b)) (fun b=>(pT false true b)) (fun t w n j b=>(wSy false (fun t2 w2 n2 j2=>(@Bool.rec (fun U=>Bool) (false) ((@Bool.rec (fun U=>Bool) (false) ((@Bool.rec (fun U=>Bool) (false) (Nat.beq j j2) (Nat.beq n n2))) (Nat.beq w w2))) (Nat.beq t t2))) b)) (fun m=>(ak true (fun U U=>false) m)) (fun U U f g m=>(ak false (fun y r=>(@Bool.rec (fun U=>Bool) (false) (g r) (f y))) m)) a
def pEq (l m:List (Nat × Vl)):Bool:=@List.rec (Nat × Vl) (fun U=>List (Nat × Vl)→Bool) (fun m=>(@List.rec (Nat × Vl) (fun U=>Bool) (true) (fun a_ r_ U=>(fun U U=>false) a_ r_) m)) (fun x U ih m=>(@List.rec (Nat × Vl) (fun U=>Bool) (false) (fun a_ r_ U=>(fun y r=>(@Bool.rec (fun U=>Bool) (false) ((@Bool.rec (fun U=>Bool) (false) (ih r) (vEq x.2 y.2))) (Nat.beq x.1 y.1))) a_ r_) m)) l m
def nEq (l m:List Nat):Bool:=@List.rec Nat (fun U=>List Nat→Bool) (fun m=>(@List.rec Nat (fun U=>Bool) (true) (fun a_ r_ U=>(fun U U=>false) a_ r_) m)) (fun x U ih m=>(@List.rec Nat (fun U=>Bool) (false) (fun a_ r_ U=>(fun y r=>(@Bool.rec (fun U=>Bool) (false) (ih r) (Nat.beq x y))) a_ r_) m)) l m
def oEq (a b:Ob):Bool:=(@Ob.rec (fun U=>Bool) (fun l=>(aW false (fun m=>lEq vEq l m) b)) (fun l=>(bO false (fun m=>pEq l m) b)) (fun c l=>(eN false (fun d m=>(@Bool.rec (fun U=>Bool) (false) (pEq l m) (Nat.beq c d))) b)) (fun x=>(oCell false (fun y=>vEq x y) b)) (fun f l=>(xd false (fun g m=>(@Bool.rec (fun U=>Bool) (false) (nEq l m) (Nat.beq f g))) b)) ((Cv false true b)) a)
def DP:Tri Ob→Tri Ob→Bool:=fun t=>@Tri.rec Ob (fun U=>Tri Ob→Bool) (fun U=>true) (fun o U U l r t2=>@Tri.rec Ob (fun U=>Bool) false (fun o2 l2 r2 U U=>(@Bool.rec (fun U=>Bool) (false) ((@Bool.rec (fun U=>Bool) (false) (r r2) (l l2))) ((@Option.rec Ob (fun U=>Bool) (true) (fun x=>(@Option.rec Ob (fun U=>Bool) (false) (fun y=>oEq x y) o2)) o)))) t2) t
def eV (h h2:Hp):Bool:=@Hp.rec (fun U=>Bool) (fun U t=>@Hp.rec (fun U=>Bool) (fun U t2=>DP t t2) h2) h
def yC (p:Nat→Bool)(b:Bool):Bool:=(@Bool.rec (fun U=>Bool) (false) ((@Bool.rec (fun U=>Bool) (false) ((@Bool.rec (fun U=>Bool) (false) ((@Bool.rec (fun U=>Bool) (false) (b) (p 4))) (p 3))) (p 2))) (p 1))
def rG (h h2:Hp)(q c:Nat)(l:List (Nat × Vl)):Bool:=aL h2 q fun o=>(eN false (fun c2 l2=>(@Bool.rec (fun U=>Bool) (false) (cI l2 fp false fun v=>gq v fun m=>(@Bool.rec (fun U=>Bool) (false) ((@Bool.rec (fun U=>Bool) (false) (aL h2 m fun o=>(bO false (fun d=>(@List.rec (Nat × Vl) (fun U=>Bool) (aX h q .eW fun h=>aX h2 q .eW fun h2=>eV h h2) (fun a_ r_ U=>(fun U U=>false) a_ r_) d)) o)) (@Hp.rec (fun U=>Bool) (fun n U=>Nat.ble n m) h))) (pEq l2 (dput fp (.ref m) l)))) (Nat.beq c c2))) o)
def Cn (i t:Nat)(x:CX):CX:=fun r f h k e=>@Fm.rec (fun U=>Bool) (fun s c=>jZ s i fun v=>(wSy (x r f h k e) (fun t0 w n j=>(@Bool.rec (fun U=>Bool) (false) (yC (fun z=>x r (.mk (lU (.int (.ofNat z)) s i) c) h (fun v h2=>(@Bool.rec (fun U=>Bool) (false) (eV h h2) (vEq v (hJ t z)))) (fun U U=>false)) (k (.sy t w n j) h)) (Nat.beq t0 0))) v)) f
def jk (r:Rt)(ps:List CT)(df:List Vl)(f:Fm)(h:Hp)(k:KF):Bool:=@List.rec CT (fun U=>List Vl→Fm→Hp→Bool) (fun U f h=>k f h) (fun t U ih df f h=>(ak false (fun v vs=>t r f v h (fun f h=>ih vs f h) (fun U U U=>false)) df)) ps df f h
def fc (r:Rt)(ps:List CT)(l df:List Vl)(f:Fm)(h:Hp)(k:KF):Bool:=@List.rec CT (fun U=>List Vl→Fm→Hp→Bool) (fun l f h=>(ak (k f h) (fun U U=>false) l)) (fun t ts ih l f h=>(ak (jk r (t :: ts) (mj df (Nat.sub (eZ df) (Nat.succ (eZ ts)))) f h k) (fun v vs=>t r f v h (fun f h=>ih vs f h) (fun U U U=>false)) l)) ps l f h
def kG (rt:Rt)(free:List Nat)(x:Fd)(l:List Vl)(h:Hp)(k:KV)(e:KE):Bool:=@Fd.rec (fun U=>Bool) (fun ns nc ps df b=>aR nc h fun cs h=>fc rt ps l df (.mk (aM ns) (jn free cs)) h fun f h=>b rt f h (fun U h=>k .none h) (fun U U=>false) k (fun i U h=>e i h)) x
def mU (i:Nat)(go:List Vl→Hp→KV→KE→Bool)(l:List Vl)(h:Hp)(k:KV)(e:KE):Bool:=(ak (go l h k e) (fun a r=>(eX (wSy (go l h k e) (fun t w n j=>(@Bool.rec (fun U=>Bool) (false) ((@Bool.rec (fun U=>Bool) (false) ((ak (yC (fun z=>go [tyV z] h (fun v h2=>(@Bool.rec (fun U=>Bool) (false) (eV h h2) (vEq v (.int (.ofNat z))))) (fun U U=>false)) (k (.sy 0 w n j) h)) (fun U U=>false) r)) (Nat.beq i Dg))) (Nat.beq t 2))) a) (fun q=>(ak (go l h k e) (fun b r2=>(wSy (go l h k e) (fun t w n j=>(@Bool.rec (fun U=>Bool) (false) ((@Bool.rec (fun U=>Bool) (false) (aL h q fun o=>(eN false (fun c a=>yC (fun z=>go (.ref q :: orV z :: r2) h (fun v h2=>(@Bool.rec (fun U=>Bool) (false) (rG h h2 q c a) (vEq v (tyV z)))) (fun U U=>false)) (bM h (.dict []) fun m h=>aX h q (.inst c (dput fp (.ref m) a)) fun h=>k (.sy 2 w n j) h)) o)) (Nat.beq i Cz))) (Nat.beq t 1))) b)) r)) a)) l)
def cM (fns:Tri Fd)(d:Nat):Rt:=@Nat.rec (fun U=>Rt) (fun U U U U U=>false) (fun U rt v l h k e=>(eX (wFn false (fun i=>(@Option.rec Fd (fun U=>Bool) (false) (fun x=>mU i (fun l h k e=>kG rt [] x l h k e) l h k e) (Tri.get fns i))) v) (fun i=>aL h i fun o=>(xd false (fun g js=>(@Option.rec Fd (fun U=>Bool) (false) (fun x=>kG rt js x l h k e) (Tri.get fns g))) o)) v)) d
end
set_option genInjectivity false
noncomputable def enc:List Nat→Nat
 | []=>0
 | c :: r=>c+128 * enc r
noncomputable def btV:Nat→Option Value
 | 1=>some (.builtin "len")| 2=>some (.type "int")| 3=>some (.type "str")| 4=>some (.builtin "isinstance")| 5=>some (.builtin "sum")
 | 6=>some (.builtin "sorted")| 7=>some (.type "tuple")| 8=>some (.type "list")| 9=>some (.type "dict")| 12=>some (.type "bool")| _=>none
structure Sc where
 names:List (Str × NameKind)
 slots:List Str
 cells:List Str
 code:Option (Addr × Str)
noncomputable def eS (ms:List (Nat × Nat))(a:Nat):Option Nat:=(ms.find? fun p=>Nat.beq p.1 a).map (·.2)
noncomputable def renamed (names:List (Str × NameKind))(l:List (Str × NameKind)):List (Str × NameKind):=l.map fun(n,k)=>if(k == .free&&names.lookup n == some .cell)=true then(n,.cell) else(n,k)
noncomputable def swp (names:List (Str × NameKind))(ts vs:List Expr):Option (Option (List Str)):=
 if(!(ts.length == 2||ts.length == 3)|| vs.length != ts.length)=true then some none else
 if(vs.any fun | .Starred ..=>true | _=>false)=true then some none else
 if((ts.filterMap fun | .Name id pos=>if(names.lookup id == some .local&&pos.line == (ts.head?.map (·.pos.line)).getD 0)=true then some id else none | _=>none).length != ts.length ||
  (ts.filterMap fun | .Name id pos=>if(names.lookup id == some .local&&pos.line == (ts.head?.map (·.pos.line)).getD 0)=true then some id else none | _=>none).eraseDups.length !=
  (ts.filterMap fun | .Name id pos=>if(names.lookup id == some .local&&pos.line == (ts.head?.map (·.pos.line)).getD 0)=true then some id else none | _=>none).length)=true then some none else
 if vs.all (foldedForSure 8)=true then some none else if vs.all (constantsAlone 8)=true then none else
 some (some (ts.filterMap fun | .Name id pos=>if(names.lookup id == some .local&&pos.line == (ts.head?.map (·.pos.line)).getD 0)=true then some id else none | _=>none))
noncomputable def HK (d:Data):Option ClassData:=match d with
 | .cls cd=>some cd
 | _=>none
noncomputable def excIn (K:Frag)(C:Addr):Bool:=(K.lookup C).any fun o=>(HK o.data).any fun cd=>!cd.abstract&&(!cd.hasDel&&((o.slots.toList[4]?).join == some (.builtin "Exception.__new__")&&(!cd.mro.isEmpty&&(cd.mro.contains (.ref C)&&(cd.mro.contains (.type "Exception")&&(cd.mro.contains (.type "BaseException") &&
   (!cd.mro.contains (.type "AttributeError")&&(!cd.mro.contains (.type "NameError") &&
   (specialIn K (.ref C) "__call__" == some (some (.builtin "type.__call__"))&&(instIn K (.ref C) (.type "type") == some true&&instIn K (.ref C) (.type "tuple") == some false))))))))))
noncomputable def nG (K:Frag)(C:Addr):Bool:=decide (findIn K (.ref C) "__getattribute__" = some (some (.builtin "BaseException.__getattribute__")))&&(decide (findIn K (.ref C) "__getattr__" = some none)&&decide (mroIn K C (.type "BaseException")=some true))
noncomputable def isR (v:Value):Bool:=match v with
 | .ref _=>true
 | _=>false
noncomputable def DY:List Value:=[.type "Exception",.type "BaseException",.type "object"]
noncomputable def sJ (K:Frag)(C:Addr):Bool:=(clsIn K C).any fun cd=>decide (cd.mro.dropWhile isR=DY)
def lkN {α : Type}(c:Nat)(l:List (Nat × α)):Option α:=@List.rec (Nat × α) (fun U=>Option α) none (fun p U ih=>bif Nat.beq p.1 c then some p.2 else ih) l
noncomputable def isK (k:NameKind)(o:Option NameKind):Bool:=decide (o=some k)
noncomputable def eP (n:Str):Option Nat :=
 bif n.cps.toList.all (fun x=>Nat.ble 1 x&&Nat.ble x 127)&&Nat.ble n.cps.toList.length 1000 then some (enc n.cps.toList) else none
noncomputable def DBG:Nat:=enc (Str.ofString "__debug__").cps.toList
noncomputable def CLD:Nat:=enc (Str.ofString "__classdict__").cps.toList
def idxOf (n:Str)(l:List Str):Option Nat:=@List.rec Str (fun U=>Option Nat) none (fun a U ih=>bif decide (a=n) then some 0 else ih.map (·+1)) l
structure Cx where
 C:Tri Kl
 names:List (Nat × Vl)
 attrs:List Nat
 w9:List (Nat × Nat)
 take:Nat
 one:Nat
 enum:Nat
 zip:Nat
 range:Nat
 dict:Nat
 list:Nat
 cov:List (Nat × Nat)
 cases:List ((Nat × Nat) × Nat × Nat)
 nest:List ((Nat × Nat) × Nat)
 hid:Nat
def Ez (X:Cx)(sc:Sc)(n:Str)(c:Nat):Option CX:=bif isK .local (sc.names.lookup n) then(idxOf n sc.slots).map Iw else bif isK .cell (sc.names.lookup n)|| isK .free (sc.names.lookup n) then(idxOf n sc.cells).map HR else bif isK .globalImplicit (sc.names.lookup n) then(lkN c X.names).map xk else none
def vY (X:Cx)(sc:Sc)(n:Str):Option CX:=(eP n).bind fun c=>bif Nat.beq c DBG||Nat.beq c CLD then none else Ez X sc n c
structure EV where
 t:Nat
 a:Expr
 b:Expr
 l:List Expr
 ks:List Keyword
 n:Str
 k:Nat
 p:Pos
 c:Const
 o1:Option Expr
 o2:Option Expr
 o3:Option Expr
 op:UnaryOp
 g:List Comprehension
 sc:Scope
noncomputable def ev0 (t:Nat)(p:Pos):EV:=⟨t,.Constant .none 0 p,.Constant .none 0 p,[],[],⟨#[]⟩,0,p,.none,none,none,none,.Not,[],default⟩
noncomputable def ev (e:Expr):EV:=match e with
 | .Name n p=>{ ev0 1 p with n }
 | .Call a l ks p=>{ ev0 2 p with a,l,ks }
 | .Attribute a n p=>{ ev0 3 p with a,n }
 | .Constant c k p=>{ ev0 4 p with c,k }
 | .Subscript a b p=>{ ev0 5 p with a,b }
 | .List l p=>{ ev0 6 p with l }
 | .Tuple l k p=>{ ev0 7 p with l,k }
 | .Slice o1 o2 o3 p=>{ ev0 8 p with o1,o2,o3 }
 | .UnaryOp op a p=>{ ev0 9 p with op,a }
 | .ListComp a g sc p=>{ ev0 10 p with a,g,sc }
 | .IfExp _ _ _ p=>ev0 11 p
 | .Starred _ p=>ev0 12 p
 | .Set _ _ p=>ev0 13 p
 | .SetComp _ _ _ p=>ev0 14 p
 | .DictComp _ _ _ _ p=>ev0 14 p
 | .GeneratorExp _ _ _ p=>ev0 14 p
 | .Compare a _ _ p=>{ ev0 15 p with a }
 | .Lambda _ b sc p=>{ ev0 16 p with b,sc }
 | e=>ev0 0 ⟨0,0,0,0⟩
noncomputable def evo {α : Type}(e:Expr)(n:Nat)(f:EV→α):Option α:=bif Nat.beq (ev e).t n then some (f (ev e)) else none
structure FV where
 name:Str
 params:Arguments
 body:List Stmt
 dec:List Expr
 ret:Option Expr
 tps:List TypeParam
 scope:Scope
 tsc:Option Scope
 bind:Str
 pos:Pos
structure SV where
 t:Nat
 p:Pos
 o1:Option Expr
 o2:Option Expr
 e:Expr
 b1:List Stmt
 b2:List Stmt
 F:Option FV
noncomputable def sv0 (t:Nat)(p:Pos):SV:=⟨t,p,none,none,.Constant .none 0 p,[],[],none⟩
noncomputable def sv (s:Stmt):SV:=match s with
 | .Return o1 p=>{ sv0 1 p with o1 }
 | .Raise o1 o2 p=>{ sv0 2 p with o1,o2 }
 | .Continue p=>sv0 3 p
 | .FunctionDef a b c d e f g h i j=>{ sv0 4 j with F:=some ⟨a,b,c,d,e,f,g,h,i,j⟩ }
 | .ClassDef _ _ _ b1 _ _ _ _ _ _ _=>{ sv0 5 ⟨0,0,0,0⟩ with b1 }
 | .Assign _ e p=>{ sv0 6 p with e }
 | .If e b1 b2 p=>{ sv0 7 p with e,b1,b2 }
 | .For _ _ b1 _ p=>{ sv0 8 p with b1 }
 | .Expr e p=>{ sv0 9 p with e }
 | .While _ _ _ p=>sv0 10 p
 | .Try _ _ _ _ p=>sv0 11 p
 | .Pass p=>sv0 12 p
 | _=>sv0 0 ⟨0,0,0,0⟩
noncomputable def dR (e:Expr):Option Str:=evo e 1 fun v=>v.n
noncomputable def jN (e:Expr):Option (Expr × List Expr × List Keyword × Pos):=evo e 2 fun v=>(v.a,v.l,v.ks,v.p)
noncomputable def jR (e:Expr):Option (Expr × Str × Pos):=evo e 3 fun v=>(v.a,v.n,v.p)
noncomputable def gH (e:Expr):Option Const:=evo e 4 fun v=>v.c
noncomputable def cStr (c:Const):Option Str:=match c with
 | .str s=>some s
 | _=>none
noncomputable def cInt (c:Const):Option Int:=match c with
 | .int s=>some s
 | _=>none
noncomputable def tO (c:Const):Bool:=match c with
 | .none=>true
 | _=>false
def gG {α : Type}(l:List α):Option α:=@List.rec α (fun U=>Option α) none (fun a r U=>@List.rec α (fun U=>Option α) (some a) (fun U U U=>none) r) l
def lX {α : Type}(l:List α):Option (α × α):=@List.rec α (fun U=>Option (α × α)) none (fun a r U=>(gG r).map (a,·)) l
noncomputable def isIte (e:Expr):Bool:=Nat.beq (ev e).t 11
noncomputable def isStar (e:Expr):Bool:=Nat.beq (ev e).t 12
noncomputable def qI (e:Expr):Bool:=bif Nat.beq (ev e).t 1 then(ev e).n != "super" else true
noncomputable def jw (e:Expr):Bool:=bif Nat.beq (ev e).t 2 then qI (ev e).a else true
noncomputable def isSet (e:Expr):Bool:=Nat.beq (ev e).t 13
noncomputable def gK (e:Expr):Bool:=Nat.beq (ev e).t 7
def kY (f:Expr→Option CX)(l:List Expr):Option CL:=@List.rec Expr (fun U=>Option CL) (some eE) (fun e U ih=>bif isStar e then none else(f e).bind fun x=>ih.map (bz x)) l
def lkP {α : Type}(a b:Nat)(l:List ((Nat × Nat) × α)):Option α:=@List.rec ((Nat × Nat) × α) (fun U=>Option α) none (fun p U ih=>bif Nat.beq p.1.1 a&&Nat.beq p.1.2 b then some p.2 else ih) l
noncomputable def bK (c:Nat)(n:Str):Bool:=(eP n).any fun a=>Nat.beq a c
noncomputable def two (f:Expr→Option CX)(a b:Expr)(k:CX→CX→CX):Option CX:=(f a).bind fun x=>(f b).map (k x)
noncomputable def zf:Const→Option CX
 | .none=>some (xk .none)
 | .bool b=>some (xk (.bool b))
 | .int i=>some (xk (.int i))
 | .str s=>(eP s).map fun c=>xk (.str c)
 | _=>none
def yA (X:Cx)(f:Expr→Option CX)(sc:Sc)(es:List Expr)(pos:Pos):Option CX:=(kY f es).bind fun l=>@Option.rec (Nat × Nat) (fun U=>Option CX) (some (vG l)) (fun p=>bif (Nat.beq p.2 1||Nat.beq p.2 2)&&Nat.ble (p.1+1) sc.slots.length then some (Cn p.1 p.2 (vG l)) else none) (lkP pos.line pos.col X.cases)
def CV (f:Expr→Option CX)(a:Expr)(op:Operator)(b:Expr):Option CX:=bif decide (op = .Add) then two f a b (rg DX) else bif decide (op = .Sub) then two f a b (rg Gf) else bif decide (op = .Mult) then two f a b (rg GK) else some jo
def cUn (f:Expr→Option CX)(op:UnaryOp)(a:Expr):Option CX:=match op with
 | .Not=>bif isIte a then none else(f a).map xP
 | .USub=>(gH a).bind fun c=>(cInt c).map fun i=>xk (.int (-i))
 | _=>none
def G6 (op:BoolOp)(x y:CX):CX:=match op with
 | .And=>Dx x y
 | .Or=>xor x y
def qJ (f:Expr→Option CX)(op:BoolOp)(l:List Expr):Option CX:=@List.rec Expr (fun U=>Option CX) none (fun e es ih=>bif isIte e then none else(f e).bind fun x=>bif es.isEmpty then some x else ih.map fun y=>G6 op x y) l
def Gx:CmpOp→Option Cmp
 | .Eq=>some HI
 | .NotEq=>some GJ
 | .Lt=>some HY
 | .Gt=>some GI
 | .Is=>some GB
 | .IsNot=>some HP
 | .In=>some Hj
 | .NotIn=>some Hg
 | _=>none
noncomputable def qY (e:Expr):Option (Option Expr × Option Expr × Option Expr):=evo e 8 fun v=>(v.o1,v.o2,v.o3)
noncomputable def vUn (e:Expr):Option (UnaryOp × Expr):=evo e 9 fun v=>(v.op,v.a)
noncomputable def EN (op:UnaryOp):Bool:=match op with
 | .USub=>true
 | _=>false
noncomputable def Eg (e:Expr):Bool:=(vUn e).any fun w=>EN w.1&&(gH w.2).any fun c=>decide (cInt c=some 1)
def cSl (f:Expr→Option CX)(a:Expr)(w:Option Expr × Option Expr × Option Expr):Option CX:=@Option.rec Expr (fun U=>Option CX)
 (@Option.rec Expr (fun U=>Option CX) (@Option.rec Expr (fun U=>Option CX) (some jo) (fun b=>(f a).bind fun x=>(f b).map (CO x)) w.2.1) (fun b=>bif w.2.1.isNone then(f a).bind fun x=>(f b).map (Gq x) else some jo) w.1)
 (fun c=>bif w.1.isNone&&(w.2.1.isNone&&Eg c) then(f a).map Cg else some jo) w.2.2
def EI (f:Expr→Option CX)(a i:Expr):Option CX:=@Option.rec _ (fun U=>Option CX) ((f a).bind fun x=>(f i).map (Gl x)) (fun w=>cSl f a w) (qY i)
noncomputable def mZ (sc:Sc)(n:Str):Bool:=isK .globalImplicit (sc.names.lookup n)
noncomputable def isNm (c:Nat)(sc:Sc)(n:Str):Bool:=bK c n&&mZ sc n&&!(Nat.beq c DBG||Nat.beq c CLD)
def wV (X:Cx)(f:Expr→Option CX)(sc:Sc)(id:Str)(args:List Expr):Option CX:=(vY X sc id).bind fun g=>(kY f args).map (zE X.C g)
noncomputable def CR (e:Expr):Option (List Expr):=evo e 6 fun v=>v.l
def Et (X:Cx)(f:Expr→Option CX)(sc:Sc)(d:Bool)(args:List Expr):Option CX:=(gG args).bind fun e=>(jN e).bind fun w=>(dR w.1).bind fun z=>(lX w.2.1).bind fun u=>bif w.2.2.1.isEmpty&&(isNm X.zip sc z&&(!isStar u.1&&!isStar u.2)) then two f u.1 u.2 (fun x y=>bif d then CG x y else Ct x y) else none
def sT (X:Cx)(sc:Sc)(args:List Expr):Bool:=(gG args).any fun e=>(jN e).any fun w=>(dR w.1).any (isNm X.zip sc)
def Cp (f:Expr→Option CX)(args:List Expr):Option CX:=(lX args).bind fun u=>bif !isStar u.1&&!isStar u.2 then(bif isIte u.2 then two f u.1 u.2 (wJ 3) else two f u.1 u.2 HE) else none
def GC (f:Expr→Option CX)(args:List Expr):Option CX:=(lX args).bind fun u=>bif !isStar u.1 then(CR u.2).bind fun es=>(f u.1).bind fun x=>(kY f es).map (Gp x) else none
def ry (X:Cx)(f:Expr→Option CX)(sc:Sc)(id:Str)(args:List Expr):Option CX :=
 bif isNm X.take sc id then Cp f args
 else bif isNm X.one sc id then GC f args
 else bif isNm X.dict sc id&&sT X sc args then Et X f sc true args
 else bif isNm X.list sc id&&sT X sc args then Et X f sc false args
 else wV X f sc id args
def CP (X:Cx)(f:Expr→Option CX)(args:List Expr)(pos:Pos)(w:Expr × Str × Pos):Option CX:=bif jw w.1&&(w.2.2.endLine == pos.line)&&Nat.ble (args.length+1) 29 then(eP w.2.1).bind fun c=>bif X.attrs.any (Nat.beq c) then(f w.1).bind fun a=>(kY f args).map (CW X.C a c) else none else none
def C0 (X:Cx)(f:Expr→Option CX)(sc:Sc)(fe:Expr)(args:List Expr)(kws:List Keyword)(pos:Pos):Option CX:=bif kws.isEmpty then @Option.rec Str (fun U=>Option CX) ((jR fe).bind (CP X f args pos)) (fun id=>ry X f sc id args) (dR fe) else none
def CN (X:Cx)(f:Expr→Option CX)(o:Expr)(nm:Str):Option CX:=bif jw o then(eP nm).bind fun c=>bif X.attrs.any (Nat.beq c) then(f o).map (fun a=>C6 X.C a c) else none else none
def C7 (X:Cx)(sc:Sc)(a:Expr):Option (Expr × Expr):=(jN a).bind fun w=>(dR w.1).bind fun id=>bif w.2.2.1.isEmpty&&isNm X.take sc id then lX w.2.1 else none
noncomputable def DI (op:CmpOp):Bool:=decide (op = .Eq)|| decide (op = .Gt)
def Iu (f:Expr→Option CX)(op:CmpOp)(b:Expr)(u:Expr × Expr):Option CX:=(gH b).bind fun c=>(cInt c).bind fun U=>bif DI op&&(!isStar u.1&&!isStar u.2) then two f u.1 u.2 xZ else none
def CE (f:Expr→Option CX)(a:Expr)(op:CmpOp)(b:Expr):Option CX:=bif isSet b then none else(Gx op).bind fun o=>two f a b (EG o)
def kB (X:Cx)(f:Expr→Option CX)(sc:Sc)(a:Expr)(op:CmpOp)(b:Expr):Option CX:=@Option.rec (Expr × Expr) (fun U=>Option CX) (CE f a op b) (Iu f op b) (C7 X sc a)
def gI (f:Expr→Option CX)(e:Expr):Option (CI × Bool):=bif isSet e then none else(f e).map fun x=>(iit x,false)
noncomputable def qC (e:Expr):Option (Str × List Expr):=(jN e).bind fun w=>(dR w.1).bind fun n=>bif w.2.2.1.isEmpty then some (n,w.2.1) else none
def lg (X:Cx)(f:Expr→Option CX)(sc:Sc)(n:Str)(a:Expr)(plain:Option (CI × Bool)):Option (CI × Bool):=bif isNm X.enum sc n then(bif isStar a then none else(f a).map fun x=>(CD x,true)) else bif isNm X.range sc n then(bif isStar a then none else(f a).map fun x=>(EZ x,false)) else plain
def jO (X:Cx)(f:Expr→Option CX)(sc:Sc)(n:Str)(u:Expr × Expr)(plain:Option (CI × Bool)):Option (CI × Bool):=bif isNm X.zip sc n then(bif !isStar u.1&&!isStar u.2 then(f u.1).bind fun x=>(f u.2).map fun y=>(HG x y,true) else none) else plain
def pS (X:Cx)(f:Expr→Option CX)(sc:Sc)(e:Expr):Option (CI × Bool):=@Option.rec (Str × List Expr) (fun U=>Option (CI × Bool)) (gI f e) (fun w=>@Option.rec Expr (fun U=>Option (CI × Bool)) (@Option.rec (Expr × Expr) (fun U=>Option (CI × Bool)) (gI f e) (fun u=>jO X f sc w.1 u (gI f e)) (lX w.2)) (fun a=>lg X f sc w.1 a (gI f e)) (gG w.2)) (qC e)
noncomputable def Hm (e:Expr):Option (Expr × Expr):=evo e 5 fun v=>(v.a,v.b)
noncomputable def yO (e:Expr):Option (List Expr):=evo e 7 fun v=>v.l
def o9 (sc:Sc)(n:Str):Option CT:=bif isK .local (sc.names.lookup n) then(idxOf n sc.slots).map cV else bif isK .cell (sc.names.lookup n) then(idxOf n sc.cells).map nF else none
def xS (f:Expr→Option CX)(e:Expr):Option CT:=(Hm e).bind fun w=>(f w.1).bind fun x=>(f w.2).map (GX x)
def ye (X:Cx)(f:Expr→Option CX)(w:Expr × Str × Pos):Option CT:=(eP w.2.1).bind fun c=>bif X.attrs.any (Nat.beq c) then(f w.1).map (fun a=>Cw X.C a c) else none
def oK (X:Cx)(f:Expr→Option CX)(sc:Sc)(e:Expr):Option CT:=@Option.rec Str (fun U=>Option CT) (@Option.rec (Expr × Str × Pos) (fun U=>Option CT) (xS f e) (ye X f) (jR e)) (o9 sc) (dR e)
def v9 (g:Expr→Option CT)(l:List Expr):Option CTs:=@List.rec Expr (fun U=>Option CTs) (some BW) (fun e U ih=>bif isStar e then none else(g e).bind fun t=>ih.map (sC t)) l
def yw (X:Cx)(f:Expr→Option CX)(sc:Sc)(e:Expr):Option CT:=@Option.rec (List Expr) (fun U=>Option CT) (oK X f sc e) (fun es=>(v9 (oK X f sc) es).map (Dp es.length)) (yO e)
def lV (X:Cx)(f:Expr→Option CX)(sc:Sc)(e:Expr):Option CT:=@Option.rec (List Expr) (fun U=>Option CT) (oK X f sc e) (fun es=>(v9 (yw X f sc) es).map (Dp es.length)) (yO e)
noncomputable def vW (k:NameKind):Bool:=decide (k = .local)
noncomputable def Dc (k:NameKind):Bool:=decide (k = .cell)
noncomputable def CJ (k:NameKind):Bool:=decide (k = .free)
noncomputable def AJ (o:Option NameKind):Bool:=isK .cell o||isK .free o
noncomputable def cN (sc:Sc)(scope:Scope):Sc:=⟨renamed sc.names scope.names,(scope.names.filter fun x=>vW x.2).map (·.1),sc.cells,none⟩
noncomputable def isFun (scope:Scope):Bool:=decide (scope.kind = .function)
def jB (sc:Sc)(scope:Scope):Bool:=isFun scope&&scope.names.all (fun x=>!Dc x.2&&(!vW x.2||isK .local (scope.names.lookup x.1))&&(!CJ x.2||((idxOf x.1 sc.cells).isSome&&AJ (sc.names.lookup x.1))))&&decide (cN sc scope).slots.Nodup
def rO (f:Expr→Option CX)(l:List Expr):Option CX:=bif l.isEmpty then some C2 else(gG l).bind fun c=>bif isIte c then none else f c
def CY (X:Cx)(f:Expr→Option CX)(f':Expr→Option CX)(sc:Sc)(elt:Expr)(gens:List Comprehension)(scope:Scope):Option CX:=(gG gens).bind fun g=>bif decide (g.is_async=0)&&jB sc scope then
 (pS X f sc g.iter).bind fun p=>bif p.2&&!gK g.target then none else(lV X f' (cN sc scope) g.target).bind fun t=>(rO f' g.ifs).bind fun c=>(f' elt).map fun x=>qm x t p.1 c (cN sc scope).slots.length else none
def xM (f:Expr→Option CX)(ks:List (Option Expr)):List Expr→Option CL:=@List.rec (Option Expr) (fun U=>List Expr→Option CL) (fun vs=>bif vs.isEmpty then some eE else none)
 (fun k U ih vs=>@List.rec Expr (fun U=>Option CL) none (fun v vs U=>k.bind fun k=>(two f k v (fun x y=>vG (bz x (bz y eE)))).bind fun p=>(ih vs).map (bz p)) vs) ks
def yx (f:Expr→Option CX)(ks:List (Option Expr))(vs:List Expr):Option CX:=bif Nat.ble ks.length 15 then(xM f ks vs).map Ag else none
def G8 (f:Expr→Option CX)(c a b:Expr):Option CX:=bif isIte c then none else(f c).bind fun x=>two f a b (Iy x)
abbrev Lam:=Sc→Arguments→Expr→Scope→Pos→Option CX
def cX (X:Cx)(lam:Lam):Nat→Sc→Expr→Option CX
 | 0,_,_=>none
 | n+1,sc,e=>match e with
  | .Constant c _ _=>zf c
  | .Name id _=>vY X sc id
  | .Tuple es _ pos=>yA X (cX X lam n sc) sc es pos
  | .List es _=>(kY (cX X lam n sc) es).map AS
  | .Dict ks vs _=>yx (cX X lam n sc) ks vs
  | .BinOp a op b _=>CV (cX X lam n sc) a op b
  | .UnaryOp op a _=>cUn (cX X lam n sc) op a
  | .BoolOp op es _=>qJ (cX X lam n sc) op es
  | .Compare a ops bs _=>(gG ops).bind fun op=>(gG bs).bind fun b=>kB X (cX X lam n sc) sc a op b
  | .Call fe args kws pos=>C0 X (cX X lam n sc) sc fe args kws pos
  | .Attribute o nm _=>CN X (cX X lam n sc) o nm
  | .Subscript a i _=>EI (cX X lam n sc) a i
  | .IfExp c a b _=>G8 (cX X lam n sc) c a b
  | .ListComp elt gens scope _=>CY X (cX X lam n sc) (cX X lam n (cN sc scope)) sc elt gens scope
  | .Lambda params body scope pos=>lam sc params body scope pos
  | _=>some jo
noncomputable def km (e:Expr):Bool:=bif Nat.beq (ev e).t 10 then true else Nat.beq (ev e).t 14
noncomputable def jY (e:Expr):Bool:=bif Nat.beq (ev e).t 6 then true else Nat.beq (ev e).t 7
noncomputable def DS (y:Str)(py:Pos)(scope:Scope)(pos:Pos):Bool:=py.line == pos.line&&!(scope.names.any fun(n,k)=>n == y&&(k == .local||k == .cell))
def Il (sc:Sc)(l:List Str):Option CTs:=@List.rec Str (fun U=>Option CTs) (some BW) (fun n U ih=>bif isK .local (sc.names.lookup n) then(idxOf n sc.slots).bind fun i=>ih.map (sC (cV i)) else none) l
def pE (X:Cx)(f:Expr→Option CX)(sc:Sc)(tg e:Expr):Option CS:=bif km e||isStar tg||(jY tg&&gK e) then none else(lV X f sc tg).bind fun t=>(f e).map (qG t)
def yI (X:Cx)(f f':Expr→Option CX)(sc:Sc)(y:Str)(py:Pos)(elt:Expr)(gens:List Comprehension)(scope:Scope)(pos:Pos):Option CS:=(gG gens).bind fun g=>bif decide (g.is_async=0)&&(jB sc scope&&(DS y py scope pos&&isK .local (sc.names.lookup y))) then(idxOf y sc.slots).bind fun i=>(pS X f sc g.iter).bind fun p=>bif p.2&&!gK g.target then none else(lV X f' (cN sc scope) g.target).bind fun t=>(rO f' g.ifs).bind fun c=>(f' elt).map fun x=>qG (cV i) (qm x t p.1 c (cN sc scope).slots.length) else none
def tL (f:Expr→Option CX)(sc:Sc)(tgs vs:List Expr)(k:Nat)(p:Pos):Option CS:=(swp sc.names tgs vs).bind fun o=>o.bind fun names=>(Il sc names.reverse).bind fun ts=>(f (.Tuple vs k p)).map (HF names.length ts)
def bL (g:Stmt→Option CS)(l:List Stmt):Option CS:=@List.rec Stmt (fun U=>Option CS) (some wA) (fun s r ih=>@List.rec Stmt (fun U=>Option CS) (g s) (fun U U U=>(g s).bind fun a=>ih.map (n9 a)) r) l
noncomputable def wR (o:Option (Option (List Str))):Bool:=o.any fun o=>o.isNone
noncomputable def fz (e:Expr):Option (List Expr × Nat × Pos):=evo e 7 fun v=>(v.l,v.k,v.p)
noncomputable def rF (e:Expr):Option (Str × Pos):=evo e 1 fun v=>(v.n,v.p)
noncomputable def vLC (e:Expr):Option (Expr × List Comprehension × Scope × Pos):=evo e 10 fun v=>(v.a,v.g,v.sc,v.p)
def zC (X:Cx)(f:Expr→Option CX)(sc:Sc)(tg e:Expr)(tgs:List Expr)(w:List Expr × Nat × Pos):Option CS:=bif wR (swp sc.names tgs w.1) then(lV X f sc tg).bind fun t=>(f e).map (qG t) else tL f sc tgs w.1 w.2.1 w.2.2
def CM (X:Cx)(f:Expr→Option CX)(g:Scope→Expr→Option CX)(sc:Sc)(tg e:Expr)(y:Str × Pos):Option CS:=@Option.rec (Expr × List Comprehension × Scope × Pos) (fun U=>Option CS) (pE X f sc tg e) (fun w=>yI X f (g w.2.2.1) sc y.1 y.2 w.1 w.2.1 w.2.2.1 w.2.2.2) (vLC e)
def Fy (X:Cx)(f:Expr→Option CX)(g:Scope→Expr→Option CX)(sc:Sc)(tg e:Expr):Option CS:=@Option.rec (Str × Pos) (fun U=>Option CS) (@Option.rec (List Expr × Nat × Pos) (fun U=>Option CS) (pE X f sc tg e) (fun u=>@Option.rec (List Expr × Nat × Pos) (fun U=>Option CS) (pE X f sc tg e) (zC X f sc tg e u.1) (fz e)) (fz tg)) (CM X f g sc tg e) (rF tg)
def Hq (X:Cx)(f:Expr→Option CX)(sc:Sc)(target iter:Expr)(body:Option CS):Option CS:=(pS X f sc iter).bind fun p=>bif p.2&&!gK target then none else(lV X f sc target).bind fun t=>body.map (Ab t p.1)
def cIf (f:Expr→Option CX)(c:Expr)(a b:Option CS):Option CS:=bif isIte c then none else(f c).bind fun x=>a.bind fun y=>b.map (Hx x y)
def Gh (f:Expr→Option CX)(c:Expr)(a:Option CS):Option CS:=bif isIte c then none else(f c).bind fun x=>a.map (Ha x)
def Jv (f:Expr→Option CX)(e:Option Expr):Option CS:=@Option.rec Expr (fun U=>Option CS) (some (kg (xk .none))) (fun e=>(f e).map kg) e
noncomputable def cExp (f:Expr→Option CX)(e:Expr):Option CS:=bif km e then none else(f e).map sex
noncomputable def xH (l:List (Nat × Nat))(n:Nat):Bool:=l.any fun p=>Nat.ble p.1 n&&Nat.ble n p.2
abbrev Hdl:=Sc→List ExceptHandler→Option CH
abbrev Oth:=Sc→Stmt→Option CS
noncomputable def qN (s:Stmt):Nat:=(sv s).p.line
def GO (X:Cx)(hdl:Hdl)(sc:Sc)(hs:List ExceptHandler)(b:Option CS):Option CS:=bif hs.isEmpty then none else b.bind fun b=>(hdl sc hs).map (Hs X.C b)
def cS1 (X:Cx)(lam:Lam)(m:Nat)(hdl:Hdl)(oth:Oth)(ih:Stmt→Option CS)(sc:Sc)(s:Stmt):Option CS:=match s with
 | .Return e _=>Jv (cX X lam m sc) e
 | .Assign tgs e _=>(gG tgs).bind fun tg=>Fy X (cX X lam m sc) (fun scope=>cX X lam m (cN sc scope)) sc tg e
 | .Expr e _=>cExp (cX X lam m sc) e
 | .If c a b _=>cIf (cX X lam m sc) c (bL ih a) (bL ih b)
 | .For target iter body e _=>bif e.isEmpty then Hq X (cX X lam m sc) sc target iter (bL ih body) else none
 | .While c body e _=>bif e.isEmpty then Gh (cX X lam m sc) c (bL ih body) else none
 | .Pass _=>some wA
 | .Continue _=>some xu
 | .Try body hs e f _=>bif e.isEmpty&&f.isEmpty then GO X hdl sc hs (bL ih body) else none
 | s=>oth sc s
def cS (X:Cx)(lam:Lam)(m:Nat)(hdl:Hdl)(oth:Oth)(n:Nat)(sc:Sc)(s:Stmt):Option CS:=@Nat.rec (fun U=>Stmt→Option CS) (fun U=>none) (fun U ih s=>bif !xH X.cov (qN s) then some iK else cS1 X lam m hdl oth ih sc s) n s
def qu (X:Cx)(sc:Sc)(n:Str):Option Nat:=match eP n with
 | none=>none
 | some c=>bif mZ sc n&&!(Nat.beq c DBG||Nat.beq c CLD) then lkN c X.w9 else none
noncomputable def Hn (e:Expr):Option Vl:=(gH e).bind fun c=>bif tO c then some .none else(cStr c).bind fun s=>(eP s).map .str
noncomputable def Hw (n:Str):Bool:=bK aK n
noncomputable def hidden (sc:Sc)(n:Str):Bool:=isK .local (sc.names.lookup n)&&!(sc.slots.any fun a=>decide (a=n))&&!(n == ("__debug__" : Str))
noncomputable def hTy (a:ExceptHandler):Option Expr:=match a with
 | .ExceptHandler t _ _ _=>t
noncomputable def hNm (a:ExceptHandler):Option Str:=match a with
 | .ExceptHandler _ n _ _=>n
noncomputable def hBd (a:ExceptHandler):List Stmt:=match a with
 | .ExceptHandler _ _ b _=>b
noncomputable def Hf (s:Stmt):Option Expr:=bif Nat.beq (sv s).t 1 then(sv s).o1 else none
noncomputable def zq (s:Stmt):Bool:=Nat.beq (sv s).t 3
noncomputable def ES (s:Stmt):Option (Option Expr × Option Expr):=bif Nat.beq (sv s).t 2 then some ((sv s).o1,(sv s).o2) else none
def cH0 (x:Nat)(s:Stmt):Option (CH→CH):=bif zq s then some (Ge x) else(Hf s).bind fun e=>(Hn e).map fun v=>GF x v
noncomputable def HU (ny:Str)(u:Expr × Expr):Option (Str × Str × Str × Str):=(jR u.1).bind fun a=>(dR a.1).bind fun nf2=>(dR u.2).map fun n=>(ny,nf2,a.2.1,n)
def HL (w:Expr × List Expr × List Keyword × Pos):Option (Str × Str × Str × Str):=bif w.2.2.1.isEmpty then(dR w.1).bind fun ny=>(lX w.2.1).bind (HU ny) else none
noncomputable def sU (o:Option Expr):Bool:=o.any fun e=>(gH e).any tO
def Jy (r:Option Expr × Option Expr):Option (Str × Str × Str × Str):=bif sU r.2 then r.1.bind fun e=>(jN e).bind HL else none
def vRC (s:Stmt):Option (Str × Str × Str × Str):=(ES s).bind Jy
noncomputable def Jp (sc:Sc)(nf_:Str)(w:Str × Str × Str × Str):Bool:=decide (w.2.1=nf_)&&(hidden sc nf_&&(Hw w.2.2.1&&(isK .local (sc.names.lookup w.2.2.2)&&!(w.2.2.2 == ("__debug__" : Str)))))
def cH2 (X:Cx)(sc:Sc)(x:Nat)(nf_:Str)(w:Str × Str × Str × Str):Option (CH→CH):=bif Jp sc nf_ w then(qu X sc w.1).bind fun y=>(idxOf w.2.2.2 sc.slots).map fun q=>G9 x y q else none
def cH1 (X:Cx)(sc:Sc)(x:Nat)(nf_:Str)(s:Stmt):Option (CH→CH):=(vRC s).bind (cH2 X sc x nf_)
def cHd (X:Cx)(sc:Sc)(a:ExceptHandler):Option (CH→CH):=(hTy a).bind fun e=>(dR e).bind fun n=>(qu X sc n).bind fun x=>(gG (hBd a)).bind fun s=>@Option.rec Str (fun U=>Option (CH→CH)) (cH0 x s) (fun nf_=>cH1 X sc x nf_ s) (hNm a)
def cH (X:Cx)(sc:Sc)(l:List ExceptHandler):Option CH:=@List.rec ExceptHandler (fun U=>Option CH) (some Ir) (fun a U ih=>(cHd X sc a).bind fun g=>ih.map g) l
def Ig (X:Cx)(f:Expr→Option CX)(sc:Sc)(w:Expr × List Expr × List Keyword × Pos):Option CS:=bif w.2.2.1.isEmpty then(dR w.1).bind fun n=>(qu X sc n).bind fun y=>(kY f w.2.1).map (GS y) else none
noncomputable def xe (s:Stmt):Option (Expr × List Expr × List Keyword × Pos):=(ES s).bind fun r=>bif r.2.isNone then r.1.bind jN else none
def G2 (X:Cx)(f:Expr→Option CX)(sc:Sc)(s:Stmt):Option CS:=(xe s).bind (Ig X f sc)
structure Nst where
 pats:List (Addr × Addr × Str)
 num:List ((Nat × Nat) × Nat)
 fr:Nat→List Str
 chk:Nat→Arguments→FuncBody→Scope→Bool
noncomputable def rT (N:Nst)(c:Addr)(q:Str):Option (Addr × Addr × Str):=N.pats.find? fun p=>decide (p.1=c)&&decide (p.2.2=q)
def jE (sc:Sc)(scope:Scope):Bool:=scope.names.all fun x=>!CJ x.2||((idxOf x.1 sc.cells).isSome&&AJ (sc.names.lookup x.1))
def C4 (sc:Sc)(scope:Scope)(l:List Str):Option (List Nat):=@List.rec Str (fun U=>Option (List Nat)) (some []) (fun n U ih=>bif AJ (sc.names.lookup n)&&scope.names.any (fun x=>decide (x=(n,NameKind.free))) then(idxOf n sc.cells).bind fun i=>ih.map (i :: ·) else none) l
def uE (N:Nst):Lam:=fun sc params body scope pos=>bif params.defaults.isEmpty&&(params.kw_defaults.isEmpty&&jE sc scope) then sc.code.bind fun cq=>(rT N cq.1 (cq.2++("<lambda>" : Str))).bind fun U=>(lkP pos.line pos.col (N.num.map fun z=>(z.1,z.2))).bind fun g=>bif N.chk g params (.expr body) scope then(C4 sc scope (N.fr g)).map (G1 g) else none else none
def bare (l:List Arg):Bool:=@List.rec Arg (fun U=>Bool) true (fun a U ih=>a.annotation.isNone&&ih) l
def Co (a:Arguments):Bool:=bare (a.args++a.posonlyargs++a.vararg.toList++a.kwonlyargs++a.kwarg.toList)
noncomputable def GP (s:Stmt):Option FV:=bif Nat.beq (sv s).t 4 then(sv s).F else none
def Hu (sc:Sc)(F:FV):Bool:=decide (F.bind=F.name)&&(F.params.defaults.isEmpty&&(F.params.kw_defaults.isEmpty&&(Co F.params&&(jE sc F.scope&&(F.dec.isEmpty&&(F.ret.isNone&&(F.tps.isEmpty&&F.tsc.isNone)))))))
def G0 (N:Nst)(sc:Sc)(s:Stmt):Option CS:=(GP s).bind fun F=>bif Hu sc F then sc.code.bind fun cq=>(rT N cq.1 (cq.2++F.name)).bind fun U=>(o9 sc F.name).map Gy else none
def oth (X:Cx)(N:Nst)(m:Nat):Oth:=fun sc s=>(G2 X (cX X (uE N) m sc) sc s).or (G0 N sc s)
def C8 (X:Cx)(N:Nst)(m:Nat)(sc:Sc)(b:List Stmt):Option CS:=bL (cS X (uE N) m (cH X) (oth X N m) m sc) b
noncomputable def aP (hid:Nat)(scope:Scope):List Str:=(scope.names.filter fun x=>vW x.2&&!bK hid x.1).map (·.1)
noncomputable def ownOf (scope:Scope):List Str:=(scope.names.filter fun x=>Dc x.2).map (·.1)
noncomputable def bI (hid:Nat)(top:Bool)(scope:Scope)(code:Value)(qual:Str)(free:List Str):Sc:=⟨scope.names,aP hid scope,free++ownOf scope,bif top then(match code with
 | .ref c=>some (c,qual++".<locals>.")
 | _=>none) else none⟩
def cPs (sc:Sc)(l:List Str):Option (List CT):=@List.rec Str (fun U=>Option (List CT)) (some []) (fun n U ih=>(o9 sc n).bind fun t=>ih.map (t :: ·)) l
noncomputable def fg (p:Arguments):Bool:=p.posonlyargs.isEmpty&&p.vararg.isNone&&p.kwonlyargs.isEmpty&&p.kwarg.isNone&&decide (p.args.map (·.arg)).Nodup
noncomputable def fY (hid:Nat)(scope:Scope)(free:List Str):Bool:=!scope.isCoroutine&&!scope.isGenerator&&isFun scope&&decide (aP hid scope).Nodup&&decide (ownOf scope).Nodup&&(ownOf scope).all (fun n=>isK .cell (scope.names.lookup n))&&((ownOf scope).isEmpty||free.isEmpty)
def nj (X:Cx)(N:Nst)(m:Nat)(sc:Sc):FuncBody→Option CS
 | .stmts b=>C8 X N m sc b
 | .expr e=>(cX X (uE N) m sc e).map kg
def fD (l:List Obj):Nat→List Nat→Frag:=@List.rec Obj (fun U=>Nat→List Nat→Frag) (fun U U=>[]) (fun o U ih n as=>@List.rec Nat (fun U=>Frag) [] (fun a r U=>bif Nat.beq a n then bif o.isFreed then ih (Nat.succ n) r else(a,o) :: ih (Nat.succ n) r else ih (Nat.succ n) as) as) l
def ij (as:List Nat)(h:Heap):Frag:=fD h.objs.toList 0 as
noncomputable def GH (d:Data):Option (Array Value):=match d with
 | .seq vs _=>some vs
 | _=>none
noncomputable def DJ (d:Data):Option FuncData:=match d with
 | .func f=>some f
 | _=>none
noncomputable def Bx (v:Value):Option Int:=match v with
 | .int i _=>some i
 | _=>none
noncomputable def Fq (v:Value):Option Str:=match v with
 | .str s _=>some s
 | _=>none
noncomputable def DU (v:Value):Option Addr:=match v with
 | .ref s=>some s
 | _=>none
noncomputable def wx (K:Frag)(a:Addr):Option (Array Value):=(K.lookup a).bind fun o=>bif decide (o.cls = .type "tuple")&&decide (o.dict=none)&&Nat.beq o.slots.size 0 then GH o.data else none
def all2 (f:Value→Vl→Bool)(vs:List Value)(xs:List Vl):Bool:=@List.rec Value (fun U=>List Vl→Bool) (fun xs=>xs.isEmpty) (fun v U ih xs=>@List.rec Vl (fun U=>Bool) false (fun x r U=>f v x&&ih r) xs) vs xs
def nN (K:Frag)(cls fn:List (Nat × Addr))(n:Nat):Value→Vl→Bool:=@Nat.rec (fun U=>Value→Vl→Bool) (fun U U=>false) (fun U ih v x=>@Vl.rec (fun U=>Bool) (fun U=>Unit) (decide (v = .none)) (fun b=>decide (v = .bool b)) (fun i=>decide (Bx v=some i)) (fun U=>false) (fun c=>(Fq v).any (bK c))
 (fun l U=>(DU v).any fun a=>(wx K a).any fun vs=>Nat.ble l.length 1000&&all2 ih vs.toList l) (fun U=>false) (fun k=>(lkN k cls).any fun a=>decide (v = .ref a)) (fun k=>(lkN k fn).any fun a=>decide (v = .ref a)) (fun k=>decide (btV k=some v)) false false false (fun U U U U=>false) () (fun U U U U=>()) x) n
noncomputable def Je (f:Nat):Nat→List Nat:=@Nat.rec (fun U=>Nat→List Nat) (fun U=>[]) (fun U ih n=>bif Nat.beq n 0 then[] else(n % 128) :: ih (n / 128)) f
noncomputable def aJ (c:Nat):Str:=⟨(Je 100 c).toArray⟩
section
noncomputable def tC:Tri Kl:=(.node (some (.mk .none true [] [])) (.node (some (.mk .none true [] [0])) (.node (some (.mk .none true [] [0])) (.node (some (.mk (some 46) false [(53902074141372383,46),(211317490,47),(487903953876853,48),(220016880,49),(3499542426867,50),(213692642,51),(27057156334,52)] [])) (.node (some (.mk (some 106) false [(53902074141372383,106),(2143092438338103654357662185,107)] [])) .nil .nil) .nil) (.node (some (.mk (some 84) false [(53902074141372383,84),(27321202803,85),(62372400349051369,86)] [])) .nil (.node .none (.node .none .nil (.node .none .nil (.node .none .nil (.node .none .nil (.node (some (.mk .none true [] [3,0])) .nil .nil))))) .nil))) (.node (some (.mk (some 13) false [(53902074141372383,13),(31366934758,14),(211317490,15),(7339608958549127922,16),(3534690873591,17),(7267050193367364338,18),(1078260195694881567474,19),(27076163554,20),(505216945910514,21),(57869040669455090,22),(15396039174811009532376300,23),(939044862956349715186,24),(939406364856095896306,25),(1069111071925903848178,26),(17660191760432972535722738,27),(8343920028383968482,28),(65187218823052514,29)] [])) (.node (some (.mk (some 55) false [(53902074141372383,55),(31366934758,57),(28160129382,58),(56743281714590450,59),(32696334197,60),(32425917684,61),(7837265551305863918,64),(448145974162148,65),(57354715372794465,67),(948836334922198986998,68),(930182424755057736948,69),(967644474759521710326,70),(59060331711544303,71),(15853887074525730945413366,72),(137970248128382598101999,73),(30815369061,74),(452440413173740,75)] [])) .nil (.node .none (.node .none .nil (.node .none .nil (.node .none .nil (.node .none .nil (.node (some (.mk .none true [] [1,0])) .nil .nil))))) .nil)) (.node (some (.mk (some 104) false [(53902074141372383,104)] [])) .nil .nil))) (.node (some (.mk .none true [] [0])) (.node (some (.mk .none true [] [0])) (.node (some (.mk (some 54) false [(53902074141372383,54)] [])) .nil (.node .none (.node .none .nil (.node .none .nil (.node .none .nil (.node .none .nil (.node (some (.mk .none true [] [0])) .nil .nil))))) .nil)) (.node (some (.mk (some 87) false [(53902074141372383,87),(30815369061,88),(448145974162148,89),(15396039174780802773349092,90),(286986713580972883715137812325,91),(7343074108906485605,92),(447704102318307,93),(211530982,94),(226177271,95),(29749801698,96),(236550771,97),(226228204,98),(4118833477606,99)] [])) .nil (.node .none (.node .none .nil (.node .none .nil (.node .none .nil (.node .none .nil (.node (some (.mk .none true [] [4,0])) .nil .nil))))) .nil))) (.node (some (.mk (some 35) false [(53902074141372383,35),(28160129382,36),(8421070490494925158,37),(527210684904563,38),(56743281714590450,39),(3982218555887,40),(211530978,41),(7338518174821349729,42),(32696334197,43)] [])) (.node (some (.mk .none false [] [])) .nil (.node .none (.node .none .nil (.node .none .nil (.node .none .nil (.node .none .nil (.node (some (.mk .none true [] [2,0])) .nil .nil))))) .nil)) (.node (some (.mk (some 105) false [(53902074141372383,105)] [])) .nil .nil))))
noncomputable def ng:List (Nat × Nat):=[(0,39),(1,52),(2,64),(3,76),(4,88),(5,284),(6,400),(7,465),(8,494),(9,662),(10,720),(11,753),(12,886),(13,909),(14,930),(15,959),(1000,39),(1001,52),(1002,64),(1003,76),(1004,88)]
noncomputable def fnL:List (Nat × Nat):=[(0,21),(2,97),(3,106),(4,113),(5,118),(6,123),(7,130),(8,137),(9,144),(10,149),(11,156),(12,161),(13,175),(14,182),(15,189),(19,217),(21,231),(23,245),(25,257),(26,262),(27,267),(28,274),(29,281),(30,295),(31,302),(32,309),(33,314),(34,322),(35,336),(36,343),(38,357),(39,362),(40,369),(41,376),(42,383),(43,390),(45,412),(46,426),(47,431),(49,443),(50,450),(51,457),(53,477),(54,491),(55,512),(58,533),(59,540),(60,547),(61,554),(67,595),(68,602),(69,607),(70,614),(72,626),(74,638),(75,645),(78,671),(79,678),(80,689),(81,696),(82,703),(84,738),(85,745),(86,750),(87,771),(88,778),(89,785),(90,790),(91,797),(93,811),(94,819),(95,826),(96,833),(97,840),(98,847),(104,906),(105,927),(106,949),(107,956),(111,993),(112,998),(113,1005),(114,1010),(115,1017),(116,1024),(117,1031),(118,1036),(119,1041),(16,196),(17,203),(18,210),(20,224),(22,238),(24,252),(37,350),(48,438),(52,462),(57,526),(64,575),(65,582),(71,619),(73,631),(92,804),(99,854)]
noncomputable def lG:List (Nat × Vl):=[(8277558478199567052,.cls 0),(8419997426709655758,.cls 1),(37031540306230035931931449554134,.cls 2),(8419997426709707988,.cls 3),(17658014443458763364839632,.cls 4),(2220462344603344247533154512,.cls 5),(30815139657,.cls 6),(3944333472466,.cls 7),(236713932,.cls 8),(504876567721027,.cls 9),(1669589,.cls 10),(27340091604,.cls 11),(509274920400845,.cls 12),(1913409,.cls 13),(1701075,.cls 14),(27071920087,.cls 15),(29219126239,.fn 0),(7983641469262755820,.fn 2),(57912373702078704,.fn 3),(513912679740146,.fn 4),(118999147707328961755891,.fn 5),(17509205154014665123902711,.fn 6),(7989288150291183598,.fn 7),(3463328594277,.fn 8),(138062776188458719900402,.fn 9),(8426683116952501492,.fn 10),(1069325630042191525094,.fn 11),(7412783829558588646,.fn 12),(1068027393196857046263,.fn 30),(119081358037559960745965,.fn 31),(460967531820148,.fn 32),(452440419627255,.fn 33),(2145056953529887473241177332,.fn 34),(119063350368478261015282,.fn 45),(452440390122740,.fn 53),(62389585018843374,.fn 78),(120326725569335541659248,.fn 79),(3463318239210,.fn 80),(7412783866588213488,.fn 81),(7985906500284971497,.fn 82),(17347426775029446996424287,.fn 111),(7559722459096184415,.fn 112),(118998566096252406625887,.fn 113),(37021367247163767838226624575071,.fn 114),(4738735007637018637380634042463839,.fn 115),(4738735007637008406372745144202847,.fn 116),(606558080977531172181046638253995615,.fn 117),(4738735007637009198399074264970847,.fn 118),(37021367247164139367741135550047,.fn 119),(177366869,(.tup [(.str 27340323572),(.tup [])])),(39220009709857986,(.str 213759981)),(6031171739001874381,(.int (256))),(771639167501794076621,(.int (4000))),(5803756897170679757,(.int (100))),(6019406478202709833,(.tup [(.str 7273),(.str 891113),(.str 825833),(.str 858985),(.str 7285),(.str 891125),(.str 825845),(.str 858997),(.str 27369568757)])),(1618239937700882587147626445,(.int (10000))),(148054739,(.str 215691987)),(1615971984390659762054850896,(.tup [(.str 27344500291),(.str 255604675),(.str 513915859088068),(.str 236714308),(.str 1882437),(.str 213628878),(.str 13775),(.str 3809589672015),(.str 1951475151058),(.str 4014967943890),(.str 213612499),(.str 119075542),(.str 443305285942259)])),(6019991836051171277,(.int (30))),(175530199,(.tup [(.str 27356854627),(.str 215692019),(.str 30815304435)])),(98631102562908905694800,(.tup [(.str 7273),(.str 891113),(.str 825833),(.str 858985),(.str 7285),(.str 891125),(.str 825845),(.str 858997),(.str 27369568757),(.str 228325346),(.str 1980354)])),(7343654749062329951,(.tup [(.str 1914729),(.str 7285)])),(65767382487430751,(.tup [(.str 228325346)])),(1815276,.bt 1),(1914729,.bt 2),(1882739,.bt 3),(938756632654307293673,.bt 4),(1800947,.bt 5),(3463330969587,.bt 6),(27340323572,.bt 7),(245167340,.bt 8),(244905188,.bt 9),(228325346,.bt 12)]
noncomputable def kK:List Nat:=[57354715372794465,243085921,3465715398753,7338518174821349729,213692642,29749801698,211530978,3978703747042,27076163554,3978446075874,65187218823052514,8343920028383968482,447704102318307,504876567721059,3982751414243,448145974162148,15396039174780802773349092,27057010533,30815369061,7343074108906485605,286986713580972883715137812325,3465715465317,31366934758,211530982,4118833477606,28160129382,8421070490494925158,65178289835848423,1913575,68560589453848808,7344160496175345896,213693160,31098418921,32425719657,30815139689,3982755641193,483436900383209,2143092438338103654357662185,513705428646377,8271858451028113897,3398897760745,62372400349051369,514152122022377,31100336745,232421354,245117675,31081608427,29779294059,29204459756,15396039174811009532376300,3980566001644,226228204,452440413173740,31106791404,1068821214135148327149,447768031982317,3499571623917,509274920400877,27057156334,31083688174,7837265551305863918,3944329476846,3982218555887,4017373395695,211385327,1817583,59060331711544303,137970248128382598101999,3980834681072,220016880,1849328,509205376711408,211317490,1078260195694881567474,7339608958549127922,505216945910514,1069111071925903848178,939044862956349715186,57869040669455090,7267050193367364338,939406364856095896306,17660191760432972535722738,3944333472498,509584938234610,56743281714590450,4014967943922,27075965810,3978718605811,7268149395761869555,7341403567688463091,527210684904563,242873587,3499542426867,27321202803,245102707,967649009836689488499,236550771,3978710003956,3982730230132,31083740404,930182424755057736948,32425917684,32696334197,487903953876853,3501677164661,242842101,967644474759521710326,3978729042166,948836334922198986998,15853887074525730945413366,65253223870279926,226177271,3534690873591,27071920119]
noncomputable def vO:List (Nat × Nat):=[(8277558478199567052,0),(8419997426709655758,1),(37031540306230035931931449554134,2),(8419997426709707988,3),(17658014443458763364839632,4)]
noncomputable def II:List (Nat × Nat):=[(8,10),(21,22),(26,29),(31,33),(35,38),(40,40),(42,44),(46,48),(50,50),(52,52),(54,54),(58,58),(64,68),(86,86),(88,88),(90,90),(92,94),(96,96),(98,98),(105,107),(110,110),(113,116),(118,120),(122,131),(133,135),(165,166),(168,168),(184,191),(193,194),(207,207),(209,209),(211,211),(223,224),(228,228),(230,230),(233,233),(236,245),(247,252),(255,255),(257,257),(259,259),(262,265),(267,273),(275,275),(277,279),(281,283),(285,288),(290,294),(296,301),(303,306),(313,315),(318,320),(328,330),(333,341),(343,346),(349,352),(354,355),(357,358),(361,361),(366,366),(368,368),(371,374),(378,384),(386,389),(391,392),(408,412),(415,417),(434,438),(445,446),(448,448),(450,451),(461,461),(463,463),(477,477),(483,488),(492,503),(512,512),(515,515),(518,521),(524,525),(549,558),(561,561),(563,565),(568,572),(575,575),(577,580),(583,589),(605,614),(630,632),(635,640),(648,648),(650,651),(661,661),(666,666),(676,678),(681,681),(684,684),(688,700),(703,704),(706,715),(717,719),(722,723),(725,725),(727,730),(733,737),(740,741),(743,743),(756,756),(759,760),(763,770),(772,772),(775,775),(777,780),(789,792),(794,794),(797,800),(802,805),(807,810),(839,845),(849,856),(860,867),(870,871),(888,888),(890,905),(907,907),(909,918),(920,926),(928,935),(937,948),(950,964),(966,970),(972,972),(974,979),(981,991),(993,993),(995,1002)]
noncomputable def FP:List ((Nat × Nat) × Nat × Nat):=[((997,21),3,1),((998,21),3,2)]
noncomputable def j7:List (Nat × Nat × Nat):=[(160,158,41464991726959899406989434952756905352086407286977766),(1009,1007,1692113099266238795094585522623903679999785159945150007477774130378335),(1016,1012,216590476706078565772106946895859671039972500472979257311242714785281631),(1023,1019,216590476706078565772106946895859671039972500472979247080234825887020639),(1030,1026,27723581018378056418829689202670037893116480060541337722435392973334672991),(1035,1033,216590476706078565772106946895859671039972500472979247872261155007788639),(1040,1038,1692113099266238795094585522623903679999785159945150379007288641353311)]
noncomputable def ui:List ((Nat × Nat) × Nat):=[((935,23),121),((947,23),122),((964,19),123),((966,24),124),((978,32),125),((990,27),126),((1001,23),127)]
noncomputable def frL:List (Nat × List Nat):=[(121,[504876567721059,487729483559152,116]),(122,[504876567721059,487729483559152,116]),(123,[504876567721059,28162160755]),(124,[504876567721059,28162160755]),(125,[504876567721059,31083688174]),(126,[504876567721059,29204459756]),(127,[504876567721059,31115227376,116])]
noncomputable def eQ:List (Nat × Nat × Option Nat):=[(2,8,none),(3,11,none),(4,12,none),(5,13,none),(6,14,none),(8,16,none),(10,18,none),(11,19,none),(12,20,none),(13,24,some 0),(14,24,some 1),(15,24,some 2),(19,24,some 6),(21,24,some 8),(23,24,some 10),(25,24,some 12),(26,24,some 13),(27,24,some 14),(28,24,some 15),(29,24,some 16),(30,25,none),(31,26,none),(32,27,none),(33,28,none),(34,29,none),(35,33,some 0),(36,33,some 1),(38,33,some 3),(39,33,some 4),(40,33,some 5),(41,33,some 6),(42,33,some 7),(43,33,some 8),(46,38,some 0),(47,38,some 1),(49,38,some 3),(50,38,some 4),(51,38,some 5),(53,39,none),(54,42,some 0),(55,43,some 0),(58,43,some 3),(59,43,some 4),(60,43,some 5),(61,43,some 6),(67,43,some 12),(68,43,some 13),(69,43,some 14),(70,43,some 15),(72,43,some 17),(74,43,some 19),(75,43,some 20),(78,44,none),(79,45,none),(80,51,none),(82,53,none),(84,55,some 0),(85,55,some 1),(86,55,some 2),(87,56,some 0),(88,56,some 1),(89,56,some 2),(90,56,some 3),(91,56,some 4),(93,56,some 6),(94,56,some 7),(95,56,some 8),(96,56,some 9),(97,56,some 10),(98,56,some 11),(104,58,some 0),(105,59,some 0),(106,60,some 0),(107,60,some 1),(111,67,none),(112,68,none),(113,69,none),(114,70,none),(115,71,none),(116,72,none),(117,73,none),(118,74,none),(119,75,none)]
noncomputable def uY:List (Nat × Nat × Nat):=[(12,160,7412783829558588646),(114,1009,37021367247163767838226624575071),(115,1016,4738735007637018637380634042463839),(116,1023,4738735007637008406372745144202847),(117,1030,606558080977531172181046638253995615),(118,1035,4738735007637009198399074264970847),(119,1040,37021367247164139367741135550047)]
noncomputable def dfL:List (Nat × List Vl):=[(34,[(.str 213759981)]),(53,[.none]),(67,[(.int (0))]),(94,[(.int (0))]),(104,[(.str 0),(.tup [])]),(106,[.none])]
noncomputable def zt:List Nat:=[0,3,20,21,29,35,36,38,39,51,52,63,64,75,76,87,88,96,97,98,99,105,106,112,113,117,118,122,123,129,130,136,137,143,144,148,149,155,156,160,161,174,175,181,182,188,189,195,196,202,203,209,210,216,217,223,224,230,231,237,238,244,245,251,252,256,257,261,262,266,267,273,274,280,281,283,284,294,295,301,302,308,309,313,314,315,321,322,335,336,342,343,349,350,356,357,361,362,368,369,375,376,382,383,389,390,399,400,405,411,412,425,426,430,431,437,438,442,443,449,450,456,457,461,462,464,465,470,476,477,490,491,493,494,511,512,525,526,532,533,539,540,546,547,553,554,574,575,581,582,590,594,595,601,602,606,607,613,614,618,619,625,626,630,631,637,638,644,645,661,662,670,671,677,678,679,680,682,688,689,695,696,702,703,719,720,737,738,744,745,749,750,752,753,770,771,777,778,784,785,789,790,796,797,803,804,810,811,812,818,819,825,826,832,833,839,840,846,847,853,854,885,886,898,899,905,906,908,909,926,927,929,930,942,948,949,955,956,958,959,964,965,971,972,978,979,985,986,992,993,997,998,1004,1005,1009,1010,1016,1017,1023,1024,1030,1031,1035,1036,1040,1041,1045,1046]
noncomputable def dQ:Nat:=979
noncomputable def jq:Nat:=986
noncomputable def fy:Nat:=972
noncomputable def iW:Nat:=1046
noncomputable def eR:Nat:=36
noncomputable def fX:Nat:=65
noncomputable def hV:Nat:=66
noncomputable def fW:Nat:=64
noncomputable def nh:Nat:=76
noncomputable def gW:Nat × Nat:=(2,0)
noncomputable def jd:Nat:=7343549747291846501
noncomputable def CZ:Nat:=1848570
noncomputable def tD:Nat:=27329802482
noncomputable def wk:Nat:=244905188
noncomputable def zB:Nat:=245167340
noncomputable def i9:Nat:=7338483264840562271
noncomputable def ly:Nat:=57345570095265375
noncomputable def BZ:Nat:=27076163558
noncomputable def yE:Nat:=1815276
noncomputable def HA:Nat:=1978605
noncomputable def Hl:Nat:=1815789
end
def stT (p:Program)(w:World):SharedT→Thread→Option (SharedT × Thread):=PySem.W.Fast.tw10156331382660048174 (PySem.W.Fast.tw11892475500146522536 PySem.W.Fast.tw14364793385576792824) p w
def rD (p:Program)(w:World)(n₀ : Nat)(ann:Option Value)(n:Nat):SharedT→Thread→Option SharedT:=@Nat.rec (fun U=>SharedT→Thread→Option SharedT) (fun U U=>none) (fun U ih s t=>bif through t then some s else bif stepOk n₀ ann t then(stT p w s t).bind fun r=>@Prod.rec SharedT Thread (fun U=>Option SharedT) (fun s t=>ih s t) r else none) n
noncomputable def bld:List Obj→Nat→BT→BT
 | [],_,T=>T
 | o :: l,n,T=>bld l (n+1) (T.ins n o)
def s0 (w:World)(os:OsState):SharedT:=⟨bld (boot_heap w.params).objs.toList 0 .nil,(boot_heap w.params).objs.toList.length,(boot_heap w.params).life,#[],boot_drawn,boot_toks,os⟩
def wB (p:Program)(w:World)(h:Heap):Bool:=staticsOk (importedModules p.main.body) (boot_heap w.params) h&&namesBound p h&&laidKept (boot_heap w.params) h
def l9 {α : Type}(p q:Program)(loose:List Str)(xt:Shared→Bool)(obs:Heap→α)(w:World)(s:SharedT):=((wB p w s.abs.heap&&gensDone s.abs,openSeen q loose (importedModules p.main.body) xt true s.abs),obs s.abs.heap)
abbrev pw:Program:=PySem.Challenge.pw_sa0459_01
abbrev rwl:OpenLaw:=PySem.Challenge.rw_sa0459_01
noncomputable def vS:Option Stmt:=pw.main.body.getLast?
def bY:Program:={ pw with main:={ pw.main with body:=vS.toList } }
noncomputable def loose:List Str:=(pw.main.scope.names.map (·.1)).filter fun n=>!(n == ("law" : Str))
noncomputable def xt:Shared→Bool:=fun s=>xlAt bY [] s&&recOk [] s
structure Txt where
 params:Arguments
 body:FuncBody
 scope:Scope
noncomputable def uf (f:FuncData):Txt:=⟨f.params,f.body,f.scope⟩
noncomputable def yF (s:Stmt):Option Txt:=(sv s).F.map fun F=>⟨F.params,.stmts F.body,F.scope⟩
noncomputable def Bb (s:Stmt):List Stmt:=bif Nat.beq (sv s).t 5 then(sv s).b1 else[]
def kA (a:Nat)(b:Option Nat):Option Txt:=(pw.main.body[a]?).bind fun s=>@Option.rec Nat (fun U=>Option Txt) (yF s) (fun j=>((Bb s)[j]?).bind yF) b
noncomputable def Dy (n:Nat):Expr→List (Pos × Expr × Scope):=@Nat.rec (fun U=>Expr→List (Pos × Expr × Scope)) (fun U=>[]) (fun U ih e=>bif Nat.beq (ev e).t 16 then[((ev e).p,(ev e).b,(ev e).sc)] else bif Nat.beq (ev e).t 2 then(ev e).l.flatMap ih else bif Nat.beq (ev e).t 3||Nat.beq (ev e).t 15 then ih (ev e).a else[]) n
noncomputable def Jc (n:Nat):Stmt→List (Pos × Expr × Scope):=@Nat.rec (fun U=>Stmt→List (Pos × Expr × Scope)) (fun U=>[]) (fun U ih s=>bif Nat.beq (sv s).t 1 then(sv s).o1.toList.flatMap (Dy 9) else bif Nat.beq (sv s).t 6||Nat.beq (sv s).t 9 then Dy 9 (sv s).e else
 bif Nat.beq (sv s).t 7 then Dy 9 (sv s).e++(sv s).b1.flatMap ih++(sv s).b2.flatMap ih else bif Nat.beq (sv s).t 8 then(sv s).b1.flatMap ih else[]) n
noncomputable def aY (b:FuncBody):List Stmt:=match b with
 | .stmts l=>l
 | _=>[]
def Fw (i:Nat):Option (Nat × Option Nat):=lkN i eQ
def gh (i:Nat):Option Txt:=(Fw i).bind fun p=>kA p.1 p.2
def HT:List (Pos × Expr × Scope):=uY.flatMap fun t=>@Option.rec Txt (fun U=>List (Pos × Expr × Scope)) [] (fun x=>(aY x.body).flatMap (Jc 9)) (gh t.1)
def xX (g:Nat):Option (Pos × Expr × Scope):=HT.find? fun x=>decide (lkP x.1.line x.1.col ui=some g)
noncomputable def eqK (a b:Const):Bool:=match a with
 | .str s=>(match b with
  | .str t=>decide (s=t)
  | _=>false)
 | .int s=>(match b with
  | .int t=>decide (s=t)
  | _=>false)
 | _=>false
def eqL (f:Expr→Expr→Bool)(l m:List Expr):Bool:=@List.rec Expr (fun U=>List Expr→Bool) (fun m=>m.isEmpty) (fun a U ih m=>@List.rec Expr (fun U=>Bool) false (fun b r U=>f a b&&ih r) m) l m
def eqE (n:Nat):Expr→Expr→Bool:=@Nat.rec (fun U=>Expr→Expr→Bool) (fun U U=>false) (fun U ih a b=>Nat.beq (ev a).t (ev b).t&&(decide ((ev a).p=(ev b).p) &&
 (bif Nat.beq (ev a).t 1 then decide ((ev a).n=(ev b).n) else bif Nat.beq (ev a).t 2 then ih (ev a).a (ev b).a&&(eqL ih (ev a).l (ev b).l&&((ev a).ks.isEmpty&&(ev b).ks.isEmpty)) else bif Nat.beq (ev a).t 3 then ih (ev a).a (ev b).a&&decide ((ev a).n=(ev b).n) else
 bif Nat.beq (ev a).t 4 then eqK (ev a).c (ev b).c&&decide ((ev a).k=(ev b).k) else bif Nat.beq (ev a).t 7 then eqL ih (ev a).l (ev b).l&&decide ((ev a).k=(ev b).k) else false))) n
noncomputable def Gb (p:Arguments):Bool:=p.args.isEmpty&&fg p
def xc (g:Nat)(params:Arguments)(body:FuncBody)(scope:Scope):Bool:=(xX g).any fun x=>Gb params&&(match body with
 | .expr e=>eqE 9 e x.2.1
 | _=>false)&&decide (scope.names=x.2.2.names)&&(!scope.isCoroutine&&!scope.isGenerator&&isFun scope)
def mW (g:Nat):List Str:=((lkN g frL).getD []).map aJ
noncomputable def XC:Cx:=⟨tC,lG,kK,vO,i9,ly,jd,CZ,tD,wk,zB,II,FP,[],0⟩
def NC:Nst:=⟨j7.map fun p=>(p.1,p.2.1,aJ p.2.2),ui,mW,xc⟩
noncomputable def dP (i:Nat):Nat:=bif Nat.beq i 60 then BZ else 0
def jr (i:Nat)(scope:Scope):Sc:=@Option.rec (Nat × Nat) (fun U=>Sc) (bI (dP i) false scope .none (aJ 0) []) (fun q=>bI (dP i) true scope (.ref q.1) (aJ q.2) []) (lkN i uY)
def iF (X:Cx)(sc:Sc)(hid:Nat)(free:List Str)(df:List Vl)(t:Txt):Option Fd:=bif fY hid t.scope free&&fg t.params&&Nat.ble df.length t.params.args.length then
 (cPs sc (t.params.args.map (·.arg))).bind fun ps=>(nj X NC 40 sc t.body).map fun b=>.mk (aP hid t.scope).length (ownOf t.scope).length ps df b else none
def iL (X:Cx)(i:Nat):Option Fd:=(gh i).bind fun t=>iF X (jr i t.scope) (dP i) [] ((lkN i dfL).getD []) t
def nO (X:Cx)(g:Nat):Option Fd:=(xX g).bind fun x=>iF X (bI 0 false x.2.2 .none (aJ 0) (mW g)) 0 (mW g) [] ⟨⟨[],[],none,[],[],none,[]⟩,.expr x.2.1,x.2.2⟩
def fnOf (i:Nat):Option Fd:=bif (lkN i eQ).isSome then iL XC i else bif ui.any fun p=>Nat.beq p.2 i then nO XC i else none
noncomputable def Gw {α : Type}(d:Nat):(Nat→Option α)→Tri α:=@Nat.rec (fun U=>(Nat→Option α)→Tri α) (fun U=>.nil) (fun U ih f=>.node (f 0) (ih fun j=>f (2 * j+1)) (ih fun j=>f (2 * j+2))) d
def fns:Tri Fd:=Gw 8 fnOf
noncomputable def EH (d:Data):Option (Array Value):=match d with
 | .fields vs=>some vs
 | _=>none
noncomputable def Gv (d:Data):Bool:=match d with
 | .plain=>true
 | _=>false
noncomputable def am1:Str:=aJ aK
noncomputable def am2:Str:=aJ il
def Cq (K:Frag)(n:Str):Option Value:=(nsIn K mainGlobals n).bind fun o=>@Option.rec Value (fun U=>Option Value) ((nsIn K builtinsNs n).bind id) (fun v=>some v) o
def ue (K:Frag)(p:Nat × Vl):Bool:=bK p.1 (aJ p.1)&&(Cq K (aJ p.1)).any fun v=>nN K ng fnL 6 v p.2
noncomputable def ya (K:Frag)(p:Nat × String):Bool:=bK p.1 (aJ p.1)&&(decide (nsIn K mainGlobals (aJ p.1)=some none)&&decide (nsIn K builtinsNs (aJ p.1)=some (some (.type p.2))))
def zH (K:Frag)(Ca:Addr)(n:Str)(f:Nat):Bool:=(lkN f fnL).any fun fa=>decide (findIn K (.ref Ca) n=some (some (.ref fa)))&&(isFn K (.ref fa)&&(decide (specialIn K (.ref fa) "__get__" = some (some (.builtin "function.__get__")))&&decide (takesIn K (.ref fa)=some false)))
def zJ (K:Frag)(Ca:Addr)(ms:List (Nat × Nat))(a:Nat):Bool:=plainGet K Ca (aJ a)&&(hasDictIn K Ca&&@Option.rec Nat (fun U=>Bool) (decide (findIn K (.ref Ca) (aJ a)=some none)) (zH K Ca (aJ a)) (eS ms a))
def z6 (K:Frag)(Ca:Addr)(f:Nat):Bool:=makesIn K Ca&&(lkN f fnL).any fun fa=>decide (findIn K (.ref Ca) "__init__" = some (some (.ref fa)))&&decide (typeIn K (.ref fa)=some (.type "function"))
def Ij (K:Frag)(Ca:Addr)(kl:Kl):Bool:=@Kl.rec (fun U=>Bool) (fun ini e ms U=>@Bool.rec (fun U=>Bool) (decide (findIn K (.ref Ca) "__setattr__" = some (some (.builtin "object.__setattr__")))&&(plainOver K Ca&&(@Option.rec Nat (fun U=>Bool) true (z6 K Ca) ini&&kK.all (zJ K Ca ms)))) true e) kl
def zw (K:Frag)(p:Nat × Nat):Bool:=keepIn K (.ref p.2)&&(tC.get p.1).any (Ij K p.2)
noncomputable def th (K:Frag)(C:Addr):Bool:=excIn K C&&(decide (findIn K (.ref C) "__init__" = some (some (.ref eR)))&&(decide (typeIn K (.ref eR)=some (.type "function"))&&(decide (findIn K (.ref C) "__setattr__" = some (some (.builtin "object.__setattr__")))&&(sJ K C&&(decide (takerIn K C am1=some none)&&(decide (takerIn K C am2=some none)&&(hasDictIn K C&&decide (typeIn K (.ref C)=some (.type "type")))))))))
def El (K:Frag)(y Ca c Cb:Nat)(kl:Kl):Bool:=@Kl.rec (fun U=>Bool) (fun U U U sup=>decide (mroIn K Cb (.ref Ca)=some (Nat.beq y c||nin y sup))&&(@Bool.rec (fun U=>Bool) true (nG K Cb&&(hasDictIn K Cb&&decide (findIn K (.ref Cb) am1=some none))) (Nat.beq y c||nin y sup))) kl
def zD (K:Frag)(p:Nat × Nat):Bool:=bK p.1 (aJ p.1)&&(lkN p.2 ng).any fun Ca=>decide (lkN (p.2+1000) ng=some Ca)&&(decide (nsIn K mainGlobals (aJ p.1)=some (some (.ref Ca)))&&(keepIn K (.ref Ca)&&(th K Ca&&ng.all fun q=>(tC.get q.1).any (El K p.2 Ca q.1 q.2))))
def jA (K:Frag)(v:Value)(df:List Vl):Bool:=@List.rec Vl (fun U=>Bool) (decide (v = .none)) (fun U U U=>(DU v).any fun a=>(wx K a).any fun vs=>all2 (nN K ng fnL 6) vs.toList df) df
noncomputable def xB (fd:FuncData)(q:Nat × Nat):Bool:=decide (fd.code = .ref q.1)&&decide (fd.qualname=aJ q.2)
noncomputable def qZ (K:Frag)(fd:FuncData):Bool:=codeIn K fd.code fd.qualname&&(Nat.beq fd.globals mainGlobals&&(Nat.beq fd.builtins builtinsNs&&fd.closure.isEmpty))
noncomputable def rf (K:Frag)(a:Addr):Option FuncData:=(K.lookup a).bind fun o=>DJ o.data
def Dd (K:Frag)(i:Nat):Bool:=(lkN i fnL).any fun a=>(rf K a).any fun fd=>qZ K fd&&(jA K fd.defaults ((lkN i dfL).getD [])&&@Option.rec (Nat × Nat) (fun U=>Bool) true (xB fd) (lkN i uY))
noncomputable def tj (K:Frag)(a:Addr):Bool:=keepIn K (.ref a)&&(rf K a).any fun fd=>qZ K fd
def se (h:Heap)(p:Nat × Nat × Nat):Bool:=(!Nat.beq p.1 p.2.1&&!Nat.beq p.2.1 cStatics&&!Nat.beq 4 p.2.1&&!nin p.2.1 zt)&&((h.get? p.1).any fun o=>decide (o.cls = .type "code")&&(EH o.data).any fun vs=>decide (vs[11]? = some (.ref p.2.1))&&(decide (vs.getD 11 .none = .ref p.2.1)&&((Fq (vs.getD 18 .none)).isSome&&((Bx (vs.getD 7 .none)).isSome&&(decide (vs.getD 9 .none = .bool true)&&(Bx (vs.getD 10 .none)).isSome)))))
&&(h.get? p.2.1).any fun o=>decide (o.cls = .none)&&(decide (o.dict=none)&&(Nat.beq o.slots.size 0&&(EH o.data).any fun vs=>Nat.beq vs.size 0))
noncomputable def ot (h:Heap):Bool:=h.isNs mainGlobals&&((h.get? mainGlobals).any (fun o=>!decide (o.cls = .none))&&(decide (h.nsMap mainGlobals "__builtins__" = some (.ref 4))&&((h.get? 4).any (fun o=>decide (o.cls = .type "module")&&(decide (o.dict=some builtinsNs)&&Gv o.data))&&(h.isNs cStatics&&(decide (h.nsMap cStatics "sys.recursionlimit" = none)&&((h.get? sysModules).isSome&&Nat.beq h.objs.size 1047))))))
noncomputable def GQ:Nat:=7989288599893376069
def KH (h:Heap):Frag:=ij zt h
noncomputable def D1:List (Nat × String):=[(jd,"enumerate"),(CZ,"zip"),(tD,"range"),(wk,"dict"),(zB,"list"),(GQ,"Exception")]
noncomputable def EM:Nat:=7845199658131945055
noncomputable def xN:List (Nat × Nat):=[(i9,dQ),(ly,jq),(EM,fy)]
noncomputable def yz:List (Nat × String):=[(HA,"max"),(Hl,"min")]
noncomputable def tW (K:Frag)(p:Nat × String):Bool:=bK p.1 (aJ p.1)&&(decide (nsIn K mainGlobals (aJ p.1)=some none)&&decide (nsIn K builtinsNs (aJ p.1)=some (some (.builtin p.2))))
def pY:List (Nat × Nat × Option Nat):=[(dQ,fX,none),(jq,hV,none),(fy,fW,none),(iW,nh,none),(eR,gW.1,some gW.2)]++eQ.map fun p=>((lkN p.1 fnL).getD 0,p.2.1,p.2.2)
def tx (h:Heap)(a:Addr):Option Txt:=(((KH h).lookup a).bind fun o=>DJ o.data).map uf
def Gk (h:Heap):Bool × Bool:=(ng.all (zw (KH h)),vO.all (zD (KH h)))
def HD (h:Heap):List (Option Txt) × Bool × Bool × Bool × Bool × Bool × Bool × Bool × Bool × Bool × Bool × Bool × Bool × Bool:=(pY.map fun p=>tx h p.1,ot h,lG.all (ue (KH h)),D1.all (ya (KH h)),fnL.all (fun p=>keepIn (KH h) (.ref p.2)),kK.all (fun a=>bK a (aJ a)&&!copiedNames.contains (aJ a)),eQ.all (fun p=>Dd (KH h) p.1),j7.all (se h),xN.all (fun p=>bK p.1 (aJ p.1)&&decide (nsIn (KH h) mainGlobals (aJ p.1)=some (some (.ref p.2)))),[dQ,jq,fy,iW,eR].all (tj (KH h)),[dQ,jq,fy,iW].all (fun a=>(rf (KH h) a).any fun fd=>decide (fd.defaults = .none)),(rf (KH h) eR).any (fun fd=>jA (KH h) fd.defaults [.int 0]),yz.all (tW (KH h)),decide (h.nsMap mainGlobals "law" = some (.ref iW)))
def Gs:List (Option Txt) × Bool × Bool × Bool × Bool × Bool × Bool × Bool × Bool × Bool × Bool × Bool × Bool × Bool:=(pY.map fun p=>kA p.2.1 p.2.2,true,true,true,true,true,true,true,true,true,true,true,true,true)
noncomputable def H0:Hp:=.mk 0 .nil
def isT (v:Vl)(_:Hp):Bool:=ifV v true false
noncomputable def uJ (w n:Nat):List Vl:=tX (fun j=>.sy 0 w n j) n
noncomputable def one (o:Ob):Hp:=.mk 1 (.node (some o) .nil .nil)
noncomputable def yp (w n:Nat):Hp:=one (.list (uJ w n))
def ER (w n:Nat)(v:Vl)(h:Hp):Bool:=@Bool.rec (fun U=>Bool) false (ifV v true false) (eV (yp w n) h)
theorem Jl:sreFenced pw.main=true:=by kernel_rfl
theorem JC:((moduleNames pw.main.body).isEmpty||lookedIntoSs (moduleNames pw.main.body) pw.main.body)=true:=by kernel_rfl
theorem Ja:namesResolve pw=true:=by rw[PySem.W.Fast.te8377067652309620493];kernel_rfl
theorem Ju:pw.boundNames.all (fun n=>!worldNames.contains n)=true:=by kernel_rfl
theorem GZ:((["vars","dir","locals"]:List Str).filter (readsOut pw pw.main.body))=[]:=by rw[PySem.W.Fast.te13343964577679436407];kernel_rfl
theorem Ib:(!(importedModules pw.main.body).all cThrough.contains)=false:=by rw[PySem.W.Fast.te5923862056798008813];kernel_rfl
theorem Gd:noRoadLSs { strict:=false,foot:=none,bare:=[] } pw.main.body=true:=by rw[PySem.W.Fast.te8326940854005059898];kernel_rfl
theorem IL:noRoadLSs { strict:=!(importedModules pw.main.body).all cThrough.contains,foot:=none,bare:=(["vars","dir","locals"]:List Str).filter (readsOut pw pw.main.body) } pw.main.body=true:=by rw[GZ,Ib];exact Gd
theorem I7:(namesMeet pw pw.main.body fun U n=>attrL n)=true:=by rw[PySem.W.Fast.te17119622794617984870,PySem.W.Fast.te17868728402115742887];kernel_rfl
theorem yT:looksOpen pw=true:=look_both (look_both (look_both (look_both (look_both Jl JC) Ja) Ju) IL) I7
theorem IC:rwl.row.loose.isEmpty=true:=by kernel_rfl
theorem Iq:rwl.row.makers.isEmpty=true:=by kernel_rfl
theorem Jg:(rwl.row.records.isEmpty||rwl.row.raises.all fun ct=>ct.1 != .builtin "AttributeError"&&ct.1 != .builtin "TypeError")=true:=by kernel_rfl
theorem Jn:(rwl.row.raises.all fun ct=>match ct.1 with | .builtin n=>!rwl.row.prog.boundNames.contains (Str.ofString n)&&!ofTheWorld.contains n | .own _=>true)=true:=by kernel_rfl
theorem Jb:decide (rwl.row.records.map (·.1)).Nodup=true:=by kernel_rfl
theorem ID:(rwl.row.records.all fun x=>!x.1.opensWith "__"&&!builtinNamed x.1&&rwl.row.prog.boundNames.contains x.1&&x.2.all fun f=>!f.1.opensWith "__")=true:=by kernel_rfl
theorem IB:rwl.row.toRowW.solid=true:=by kernel_rfl
theorem Jm:rwl.row.pre.litsOk=true:=by kernel_rfl
theorem JA:rwl.row.post.litsOk=true:=by kernel_rfl
theorem Jk:rwl.row.raises.all (·.2.litsOk)=true:=by kernel_rfl
theorem HV:rwl.row.mutates.all (fun i=>match rwl.row.args[i]? with
  | some sh=>!sh.arms.any WShape.isObj
  | none=>false)=true:=by kernel_rfl
theorem Ga:rwl.row.within.all (fun i=>decide (i < rwl.row.args.length))=true:=by kernel_rfl
theorem IA:rwl.row.same.all (fun i=>decide (i < rwl.row.args.length))=true:=by kernel_rfl
theorem BE:rwl.row.partSaid=true:=look_both (look_both (look_both (look_both (look_both (look_both (look_both (look_both (look_both (look_both (look_both (look_both (look_both yT IC) Iq) Jg) Jn) Jb) ID) IB) Jm) JA) Jk) HV) Ga) IA
theorem GU:rwl.row.prog.boundNames.contains rwl.row.name=true:=by kernel_rfl
theorem HJ:(!startupNames.contains rwl.row.name)=true:=by kernel_rfl
theorem Ec:rwl.row.wellSaid=true:=look_both (look_both BE GU) HJ
theorem Jj:decide (rwl.foot≤(behindTheImports rwl.prog).length)=true:=by kernel_rfl
theorem I3:rwl.footing.all footLine=true:=by kernel_rfl
theorem IS:noClassBlock rwl.prog rwl.footing=true:=by kernel_rfl
theorem IV:rwl.most.all (fun n=>decide (63≤n))=true:=by kernel_rfl
theorem IF:rwl.bound.all (fun n=>decide (2 ^ 63≤n))=true:=by kernel_rfl
theorem Jz:defStands rwl.about rwl.above=true:=by kernel_rfl
theorem Jr:(["type","isinstance","issubclass","getattr","hasattr"]:List Str).all (fun n=>rwl.about != [n])=true:=by kernel_rfl
theorem Gm:(!rwl.writes||(rwl.prog.main.body.flatMap importedNames).all fun n=>!rwl.reads n)=true:=by kernel_rfl
theorem G7:rwl.own.contains rwl.name=true:=by kernel_rfl
theorem Hb:(rwl.own.eraseDups.length == rwl.own.length)=true:=by kernel_rfl
theorem Hk:rwl.own.all (fun n=>!builtinNamed n)=true:=by kernel_rfl
theorem IG:noRoadLSs { strict:=true,foot:=some rwl.bound',writes:=rwl.writes,may:=rwl.may } rwl.footing=true:=by rw[PySem.W.Fast.te8326940854005059898];kernel_rfl
theorem JE:rwl.namesIt=true:=by unfold OpenLaw.namesIt OpenLaw.reads;rw[PySem.W.Fast.te13343964577679436407];kernel_rfl
theorem H9:(namesMeet rwl.prog rwl.above (fun U n=>!rwl.own.contains n))=true:=by rw[PySem.W.Fast.te17119622794617984870];kernel_rfl
theorem Hd:(namesMeet rwl.prog rwl.footing fun sc n=>sc.kind == .module||sc.names.lookup n != some .globalExplicit)=true:=by rw[PySem.W.Fast.te17119622794617984870];kernel_rfl
theorem Ic:(namesMeet rwl.prog rwl.footing (fun sc n=>(!(["type","isinstance","issubclass","getattr","hasattr"]:List Str).contains n||sc.names.lookup n == some .globalImplicit) &&
  (rwl.may != some n||sc.kind == .module||sc.names.lookup n == some .globalImplicit)))=true:=by rw[PySem.W.Fast.te17119622794617984870];kernel_rfl
theorem Ho:((rwl.prog.main.body.flatMap importedNames).all (fun n=>!rwl.reads n||(drawsOf n rwl.prog.main.body).all fun mn=>mn.2 != ("attrgetter" : Str)&&mn.2 != ("methodcaller" : Str)))=true:=by unfold OpenLaw.reads;rw[PySem.W.Fast.te13343964577679436407];kernel_rfl
theorem HN:(rwl.bound'.all fun n=>!builtinNamed n||rwl.about == [n]|| !rwl.reads n)=true:=by unfold OpenLaw.reads;rw[PySem.W.Fast.te13343964577679436407,PySem.W.Fast.named_eq];kernel_rfl
theorem yh:OpenLaw.wellSaid rwl=true:=look_both (look_both (look_both (look_both (look_both (look_both (look_both (look_both (look_both (look_both (look_both (look_both (look_both (look_both (look_both (look_both (look_both (look_both Ec Jj) I3) IS) IV) IF) IG) Jz) JE) Jr) HN) Gm) Ho) Ic) G7) Hb) Hk) H9) Hd
theorem Gz (w:World)(os:OsState):(rD pw w 11 (some (.ref 6)) 7600 (s0 w os) (topStub pw)).map (l9 pw bY loose xt Gk w)=some ((true,openGood bY loose),(true,true)):=by kernel_rfl
theorem Hy (w:World)(os:OsState):(rD pw w 11 (some (.ref 6)) 7600 (s0 w os) (topStub pw)).map (l9 pw bY loose xt HD w)=some ((true,openGood bY loose),Gs):=by kernel_rfl
def gOf (i:Nat)(t:Txt):Stmt→Option CS:=cS XC (uE NC) 40 (cH XC) (oth XC NC 40) 40 (jr i t.scope)
def rt9:Rt:=cM fns 59
def lY (i:Nat):List Vl:=(lkN i dfL).getD []
def qX (i n:Nat)(K:KF):Bool:=@Option.rec Txt (fun U=>Bool) false (fun t=>@Option.rec (List CT) (fun U=>Bool) false (fun ps=>@Option.rec CS (fun U=>Bool) false (fun a=>aR (ownOf t.scope).length H0 fun cs h=>fc rt9 ps [.src] (lY i) (.mk (aM (aP (dP i) t.scope).length) (jn [] cs)) h fun f h=>a rt9 f h K (fun U U=>false) isT (fun U U U=>false)) (bL (gOf i t) ((aY t.body).take n))) (cPs (jr i t.scope) (t.params.args.map (·.arg)))) (gh i)
def bx (i n:Nat)(f:Fm)(h:Hp):Bool:=@Option.rec Txt (fun U=>Bool) false (fun t=>@Option.rec CS (fun U=>Bool) false (fun b=>b rt9 f h (fun U h=>isT .none h) (fun U U=>false) isT (fun U U U=>false)) (bL (gOf i t) ((aY t.body).drop n))) (gh i)
def IW (b:FuncBody):Bool:=@FuncBody.rec (fun U=>Bool) (fun U=>true) (fun U=>false) b
def qO (i n:Nat):Bool:=(gh i).any fun t=>(fY (dP i) t.scope []&&fg t.params&&Nat.ble (lY i).length t.params.args.length)&&(IW t.body&&(Nat.ble 1 n&&(!((aY t.body).drop n).isEmpty&&(bL (gOf i t) ((aY t.body).drop n)).isSome)))
def AA (i n m:Nat)(K:KF)(f:Fm)(h:Hp):Bool:=@Option.rec Txt (fun U=>Bool) false (fun t=>@Option.rec CS (fun U=>Bool) false (fun b=>b rt9 f h K (fun U U=>false) isT (fun U U U=>false)) (bL (gOf i t) (((aY t.body).drop n).take m))) (gh i)
def Df (i n m:Nat):Bool:=(gh i).any fun t=>Nat.ble 1 m&&((bL (gOf i t) (((aY t.body).drop n).take m)).isSome&&(!(((aY t.body).drop n).drop m).isEmpty&&(bL (gOf i t) (((aY t.body).drop n).drop m)).isSome))
section
noncomputable def cq0:Vl:=.tup [.str 230520677,.int 1,.str 69,.tup [.tup [],.tup [.tup [.str 84,.tup []]]],.tup [.tup [.str 65,.str 245004149,.tup []],.tup [.str 66,.str 27340323572,.tup []]],.bool .true]
noncomputable def cq1:Vl:=.tup [.str 4012552010355,.int 1,.str 81,.tup [.tup [],.tup [.tup [.str 84,.tup []]]],.str 27340323572,.tup [],.bool .true]
noncomputable def cq2:Vl:=.tup [.str 4012552010355,.int 1,.str 80,.tup [.tup [],.tup []],.str 27057156334,.tup [],.bool .true]
noncomputable def cq3:Vl:=.tup [.str 31381501923,.int 1,.str 75,.none,.none,.bool .true]
noncomputable def cq4:Vl:=.tup [.str 1652717,.int 1,.str 110,.tup [],.bool .true]
noncomputable def cq5:Vl:=.tup [.str 1652717,.int 1,.str 109,.tup [cq2,cq1,cq0,cq3,cq4],.bool .true]
noncomputable def chk (o c:Nat)(lp:List Vl):List Ob:=let r:=fun i=>Vl.ref (Nat.add i o);[.list [.bool .true,.bool .true],.dict [],.list [cq2,cq1],.list [cq0],.list [cq2,cq1,cq0],.list [cq3,cq4],.list [cq2,cq1,cq0,cq3,cq4],.list [cq5],.inst 12 [(31081608427,(r 11)),(509205376711408,(r 12)),(3978710003956,(r 13)),(65178289835848423,(r 18)),(31100336745,(r 19)),(245117675,(r 20))],.dict [(0,.str 1652717),(109,.str 1652717),(168729965,.str 4012552010355),(170827117,.str 4012552010355),(145661293,.str 230520677),(287881602964845,.str 513979226829046),(292279649475949,.str 513979226829046),(158244205,.str 31381501923),(231644525,.str 1652717)],.dict [(0,.bool .true),(109,.bool .true),(168729965,.bool .true),(170827117,.bool .true),(145661293,.bool .true),(158244205,.bool .true),(231644525,.bool .true)],.dict [(0,(r 14)),(109,(r 29)),(231644525,(r 58))],.inst 11 [(31083740404,(r 15)),(3978729042166,(r 16)),(242842101,(r 17))],.dict [(109,.str 109)],.dict [],.dict [],.dict [(168729965,.tup [.tup [],.tup []]),(170827117,.tup [.tup [],.tup [.str 84]]),(145661293,.tup [.tup [],.tup [.str 84]])],.dict [(168729965,cq2),(170827117,cq1),(145661293,cq0),(158244205,cq3)],.dict [],.list [cq5],.list [],.list [],.list [cq2,cq1,cq0,cq3,cq4],.cell ((r 14)),.cell (.str 109),.list [],.list [],.inst 11 [(31083740404,(r 30)),(3978729042166,(r 31)),(242842101,(r 32))],.dict [(80,.str 168729965),(81,.str 170827117),(69,.str 145661293),(110,.str 231644525)],.dict [(81,.str 170827117),(75,.str 158244205)],.dict [],.list [],.cell ((r 29)),.cell (.str 80),.list [],.list [],.list [],.cell ((r 29)),.cell (.str 81),.list [],.list [],.list [.str 84],.cell ((r 29)),.cell (.str 69),.list [],.list [],.list [.str 84],.cell ((r 29)),.cell (.str 75),.list [],.list [],.list [],.cell ((r 29)),.cell (.str 110),.list [],.list [],.inst 11 [(31083740404,(r 59)),(3978729042166,(r 60)),(242842101,(r 61))],.dict [],.dict [],.dict [],.list [],.list [],.inst 15 [(509274920400877,(r 10)),(243085921,(r 65)),(65253223870279926,(r 87)),(242873587,(r 67)),(3982730230132,(r 68)),(31098418921,(r 69)),(3982751414243,(r 70)),(3978703747042,(r 71))],.dict [(168729965,(r 75)),(170827117,(r 79)),(145661293,(r 86))],.dict [],.dict [(82000018254388120042099,(r 89))],.dict [],.list [],.dict [(158244205,.tup [.tup [.str 1914729,.str 7285],.tup [.str 1914729,.int 1,.int 7,.none],.str 109])],.dict [],.list [.tup [.str 97,.tup [.str 228325346]],.tup [.str 98,.tup [.str 1914729,.str 7285]]],.list [.tup [.str 80,.str 27057156334,(r 72)]],.list [(r 2)],.inst 13 [(220016880,.str 168729965),(3499571623917,.str 109),(509584938234610,.tup []),(3980834681072,.tup []),(65253223870279926,(r 73)),(509205376711408,(r 74)),(483436900383209,.bool .false)],.list [.tup [.str 48,.tup [.str 29464768752,.str 84]],.tup [.str 49,.tup [.str 1914729,.str 7285]]],.list [.tup [.str 81,.str 27340323572,(r 76)]],.list [(r 2)],.inst 13 [(220016880,.str 170827117),(3499571623917,.str 109),(509584938234610,.tup []),(3980834681072,.tup [.str 84]),(65253223870279926,(r 77)),(509205376711408,(r 78)),(483436900383209,.bool .false)],.list [],.list [.tup [.str 48,.tup [.str 29464768752,.str 84]]],.list [.tup [.str 65,.str 245004149,(r 80)],.tup [.str 66,.str 27340323572,(r 81)]],.list [],.list [.bool .true],.list [(r 83),(r 84)],.inst 13 [(220016880,.str 145661293),(3499571623917,.str 109),(509584938234610,.tup []),(3980834681072,.tup [.str 84]),(65253223870279926,(r 82)),(509205376711408,(r 85)),(483436900383209,.bool .true)],.dict [(168729965,.tup [.str 168729965,.int 0]),(170827117,.tup [.str 170827117,.int 0]),(287881602964845,.tup [.str 145661293,.int 0]),(292279649475949,.tup [.str 145661293,.int 1])],.list [.tup [.str 84,.tup [.str 226275533]]],.inst 14 [(220016880,.str 145661293),(509584938234610,.tup []),(3980834681072,(r 88)),(1817583,(r 88)),(3982755641193,.tup []),(4017373395695,.tup [.str 1913441,.str 145661293,.tup [],.tup [.tup [.str 29464768752,.str 84]]]),(7268149395761869555,.none),(68560589453848808,.bool .false)],.inst 9 [(27071920119,(r 64)),(3499571623917,.str 0),(7341403567688463091,.none),(3978446075874,(r 3)),(3944333472498,.none),(30815139689,(r 91)),(3980566001644,(r 95)),(3978718605811,(r 97)),(31106791404,(r 98)),(1068821214135148327149,.int (.ofNat c)),(211385327,(r 99)),(4014967943922,.tup [.str 27340323572,.tup []])],.inst 6 [(27057010533,(r 92)),(29779294059,(r 93)),(8271858451028113897,(r 94))],.list [],.list [],.list [],.list [],.dict [],.list [(r 96)],.list lp,.list []]
def hAdd (l:List Ob):Hp:=@List.rec Ob (fun U=>Hp→Hp) (fun h=>h) (fun o U ih h=>ih (@Hp.rec (fun U=>Hp) (fun n t=>.mk (Nat.succ n) (Tri.set o t n)) h)) l (.mk 0 .nil)
noncomputable def u8V:Vl:=.tup [.str 220016880,.int 1,.tup [.tup [.str 7285,.tup [],.tup []]]]
noncomputable def spV (nm w:Nat):Vl:=.tup [.str nm,.tup (bif Nat.beq w 0 then[.str 12455] else[]),.tup (bif Nat.beq w 3 then[] else yY u8V w)]
noncomputable def waV (w:Nat):Vl:=bif Nat.beq w 3 then .ge 3 else .int (.ofNat w)
def plL (ws:List Nat):Nat→List Vl:=@List.rec Nat (fun U=>Nat→List Vl) (fun U=>[]) (fun w U ih n=>bif Nat.beq w 3 then ih (n+1) else .int (.ofNat n) :: ih (n+1)) ws
noncomputable def sF (en:Bool)(n x:Nat)(v:Vl)(r:List Vl):Fm:=.mk ([.src,u8V,.bool en,.ref 2,.ref 4,.int (.ofNat n),.str x,v]++r) [0,1]
def sH (c d:Vl)(sp ns pl:List Vl)(r:List Ob):Hp:=hAdd ([.cell c,.cell d,.list ns,.list sp,.list pl]++r)
noncomputable def nsE (x:Nat):List Vl:=[.str 27356854627,.str 109,.str 69,.str x]
noncomputable def nsQ:List Vl:=[.str 27356854627,.str 109,.str 81]
noncomputable def spE (x a b c d:Nat):List Vl:=[spV 27356854627 a,spV 109 b,spV 69 c,spV x d]
noncomputable def spQ (a b c:Nat):List Vl:=[spV 27356854627 a,spV 109 b,spV 81 c]
def G4 (K:KF)(x a b c d:Nat):Bool:=K (sF true 3 x (waV d) (aM 9)) (sH .unset (.ref 3) (spE x a b c d) (nsE x) (plL [a,b,c,d] 0) [])
def G3 (K:KF)(a b c:Nat):Bool:=K (sF false 2 81 (waV c) (aM 9)) (sH .unset (.ref 3) (spQ a b c) nsQ (plL [a,b,c] 0) [])
noncomputable def F2 (en:Bool)(n x:Nat)(v:Vl)(o:Nat):Fm:=sF en n x v ([.int 2,.str o]++aM 7)
def H2 (sp ns pl:List Vl):Hp:=sH (.ref 93) (.tup sp) sp ns pl (chk 3 0 [])
def J4 (K:KF)(x a b c d:Nat):Bool:=K (F2 true 3 x (waV d) 145661293) (H2 (spE x a b c d) (nsE x) (plL [a,b,c,d] 0))
def J3 (K:KF)(a b c:Nat):Bool:=K (F2 false 2 81 (waV c) 170827117) (H2 (spQ a b c) nsQ (plL [a,b,c] 0))
def wq (k:Nat→Bool):Bool:=@Bool.rec (fun U=>Bool) false (je 3 k) (k 3)
def ty4 (G:Nat→Nat→Nat→Nat→Nat→Bool)(x a:Nat):Bool:=wq fun b=>wq fun c=>wq fun d=>G x a b c d
def ty3 (G:Nat→Nat→Nat→Bool):Bool:=wq fun a=>wq fun b=>wq fun c=>G a b c
def tyA (G:Nat→Nat→Nat→Nat→Nat→Bool)(G':Nat→Nat→Nat→Bool):Bool:=@Bool.rec (fun U=>Bool) false (ty3 G') (@Bool.rec (fun U=>Bool) false (@Bool.rec (fun U=>Bool) false true (wq (ty4 G 66))) (wq (ty4 G 65)))
noncomputable def lbV (l:Nat):Vl:=@Nat.rec (fun U=>Vl) .none (fun l U=>.str (bif Nat.beq l 0 then 12455 else 12583)) l
def lpO (cs:List (Nat × Bool)):Nat→List Ob:=@List.rec (Nat × Bool) (fun U=>Nat→List Ob) (fun U=>[]) (fun p U ih n=>.inst 8 [(29204459756,lbV p.1),(3944329476846,.int (.ofNat n)),(4014967943922,.tup [.str 27340323572,.tup []]),(7344160496175345896,.bool false),(514152122022377,.bool p.2),(513705428646377,.bool false)] :: ih (n+1)) cs
noncomputable def lpR (n:Nat):List Vl:=tX (fun i=>.ref (Nat.add 101 i)) n
def lH (cs:List (Nat × Bool)):Hp:=hAdd ([.cell (.ref 90),.cell (@List.rec (Nat × Bool) (fun U=>Vl) .unset (fun p U U=>lbV p.1) cs.reverse)]++(chk 0 cs.length (lpR cs.length)++(.list (cs.map fun p=>.tup [lbV p.1,.bool p.2]) :: lpO cs 0)))
def lF (cs:List (Nat × Bool)):Fm:=.mk ([.src,.ref 100]++(@List.rec (Nat × Bool) (fun U=>List Vl) (aM 3) (fun p r U=>[.int (.ofNat r.length),.bool p.2,.ref (Nat.add 101 r.length)]) cs.reverse++aM 3)) [0,1]
def aQ (a b:Bool):Bool:=@Bool.rec (fun U=>Bool) false b a
def turns (G:List (Nat × Bool)→Bool)(m:Nat):List (Nat × Bool)→Bool:=@Nat.rec (fun U=>List (Nat × Bool)→Bool) G (fun U ih cs=>aQ (aQ (ih (cs++[(0,true)])) (ih (cs++[(0,false)]))) (aQ (aQ (ih (cs++[(1,true)])) (ih (cs++[(1,false)]))) (aQ (aQ (ih (cs++[(2,true)])) (ih (cs++[(2,false)]))) true))) m
def lpK (K:KF)(cs:List (Nat × Bool)):Bool:=K (lF cs) (lH cs)
end
theorem aI {a b:Bool}(h:aQ a b=true):a=true∧b=true:=by
 cases a with
 | true=>exact⟨rfl,h⟩
 | false=>exact ft h
theorem cR {a b:Bool}(h:a=true)(k:b=true):aQ a b=true:=by rw[h,k];rfl
theorem De {k:Nat→Bool}(h:aQ (k 3) (k 0)=true)(l:aQ (k 1) (k 2)=true):wq k=true:=by
 show aQ (k 3) (aQ (k 2) (aQ (k 1) (aQ (k 0) true)))=true
 exact cR (aI h).1 (cR (aI l).2 (cR (aI l).1 (cR (aI h).2 rfl)))
theorem Fc {G:Nat→Nat→Nat→Nat→Nat→Bool}{G':Nat→Nat→Nat→Bool}(a:wq (ty4 G 65)=true)(b:wq (ty4 G 66)=true)(c:ty3 G'=true):tyA G G'=true:=by
 show aQ (aQ (wq (ty4 G 65)) (aQ (wq (ty4 G 66)) true)) (ty3 G')=true
 exact cR (cR a (cR b rfl)) c
def fV (k:Nat→Bool):Bool:=aQ (k 0) (aQ (k 1) (aQ (k 2) true))
def leE (G:List (Nat × Bool)→Bool)(cs:List (Nat × Bool)):Bool:=fV fun l=>aQ (G (cs++[(l,true)])) (G (cs++[(l,false)]))
theorem fF {k:Nat→Bool}(h:fV k=true)(i:Nat)(l:i < 3):k i=true:=by
 rcases i with _ | _ | _ | i
 ·exact(aI h).1
 ·exact(aI (aI h).2).1
 ·exact(aI (aI (aI h).2).2).1
 ·exact absurd l (Nat.not_lt.mpr (Nat.le_add_left 3 i))
theorem AV {k:Nat→Bool}(h:∀ i,i < 3→k i=true):fV k=true:=cR (h 0 (by decide)) (cR (h 1 (by decide)) (cR (h 2 (by decide)) rfl))
theorem fH {G:List (Nat × Bool)→Bool}{m:Nat}{cs:List (Nat × Bool)}(h:∀ (b:Bool)(i:Nat),i < 3→turns G m (cs++[(i,b)])=true):turns G (m+1) cs=true:=by
 show fV (fun l=>aQ (turns G m (cs++[(l,true)])) (turns G m (cs++[(l,false)])))=true
 exact AV fun i l=>cR (h true i l) (h false i l)
theorem HS {G:List (Nat × Bool)→Bool}(h:∀ a b c:Bool,aQ (fV fun i=>fV fun j=>fV fun k=>leE G [(i,a),(j,b),(k,c)]) (aQ (fV fun i=>fV fun j=>leE G [(i,a),(j,b)]) (aQ (fV fun i=>leE G [(i,a)]) (aQ (leE G []) (G []))))=true):je 5 (fun n=>turns G n [])=true:=by
 have h4:turns G 4 []=true:=fH fun a i hi=>fH fun b j hj=>fH fun c k hk=>fF (fF (fF (aI (h a b c)).1 i hi) j hj) k hk
 have h3:turns G 3 []=true:=fH fun a i hi=>fH fun b j hj=>fF (fF (aI (aI (h a b true)).2).1 i hi) j hj
 have h2:turns G 2 []=true:=fH fun a i hi=>fF (aI (aI (aI (h a true true)).2).2).1 i hi
 have h1:=(aI (aI (aI (h true true true)).2).2).2
 show aQ (turns G 4 []) (aQ (turns G 3 []) (aQ (turns G 2 []) (aQ (leE G []) (aQ (G []) true))))=true
 exact cR h4 (cR h3 (cR h2 (cR (aI h1).1 (cR (aI h1).2 rfl))))
theorem vd (K:KF):qX 116 4 K=tyA (G4 K) (G3 K):=by kernel_rfl
theorem Iz (K:KF)(x a b c d:Nat):AA 116 4 2 K (sF true 3 x (waV d) (aM 9)) (sH .unset (.ref 3) (spE x a b c d) (nsE x) (plL [a,b,c,d] 0) [])=J4 K x a b c d:=by kernel_rfl
theorem GD (K:KF)(a b c:Nat):AA 116 4 2 K (sF false 2 81 (waV c) (aM 9)) (sH .unset (.ref 3) (spQ a b c) nsQ (plL [a,b,c] 0) [])=J3 K a b c:=by kernel_rfl
theorem we:(qO 116 4&&Df 116 4 2)=true:=by kernel_rfl
theorem I8:aQ (ty4 (J4 (bx 116 6)) 65 3) (ty4 (J4 (bx 116 6)) 65 0)=true:=by kernel_rfl
theorem Jh:aQ (ty4 (J4 (bx 116 6)) 65 1) (ty4 (J4 (bx 116 6)) 65 2)=true:=by kernel_rfl
theorem Jd:aQ (ty4 (J4 (bx 116 6)) 66 3) (ty4 (J4 (bx 116 6)) 66 0)=true:=by kernel_rfl
theorem I5:aQ (ty4 (J4 (bx 116 6)) 66 1) (ty4 (J4 (bx 116 6)) 66 2)=true:=by kernel_rfl
theorem Jw:ty3 (J3 (bx 116 6))=true:=by kernel_rfl
theorem Al:cM fns 60 (.fn 114) [.src] H0 isT (fun U U=>false)=true:=by kernel_rfl
theorem BQ:cM fns 60 (.fn 115) [.src] H0 isT (fun U U=>false)=true:=by kernel_rfl
theorem BU:cM fns 60 (.fn 117) [.src] H0 isT (fun U U=>false)=true:=by kernel_rfl
theorem uX (K:KF):qX 118 2 K=je 5 (fun n=>turns (lpK K) n []):=by kernel_rfl
theorem zb:qO 118 2=true:=by kernel_rfl
theorem Ji (a b c:Bool):aQ (fV fun i=>fV fun j=>fV fun k=>leE (lpK (bx 118 2)) [(i,a),(j,b),(k,c)]) (aQ (fV fun i=>fV fun j=>leE (lpK (bx 118 2)) [(i,a),(j,b)]) (aQ (fV fun i=>leE (lpK (bx 118 2)) [(i,a)]) (aQ (leE (lpK (bx 118 2)) []) (lpK (bx 118 2) []))))=true:=by kernel_rfl
def wr (w n:Nat):Bool:=cM fns 60 (.fn 119) [.ref 0] (yp w n) (ER w n) (fun U U=>false)
theorem IQ:aQ (aQ (wr 0 1) (wr 0 2)) (aQ (wr 0 3) (wr 0 4))=true:=by kernel_rfl
theorem Jf:aQ (aQ (wr 0 5) (wr 0 6)) (aQ (wr 1 5) (wr 1 6))=true:=by kernel_rfl
theorem JF:aQ (aQ (wr 0 7) (wr 0 8)) (aQ (wr 1 7) (wr 1 8))=true:=by kernel_rfl
theorem nf {C:Prop}(h:false=true):C:=absurd h Bool.false_ne_true
theorem ns {α : Type}{a : α}{C:Prop}(h:none=some a):C:=nomatch h
structure ag (s:Str)(c:Nat):Prop where
 code:enc s.cps.toList=c
 ok:∀ x∈s.cps.toList,0 < x∧x < 128
 len:s.cps.toList.length≤1000
theorem qv (h:0 < a)(e:0=enc (a :: l)):False:=Nat.lt_irrefl 0 (Nat.lt_of_lt_of_le h (e▸Nat.le_add_right a (128 * enc l)))
theorem four (a:1≤z)(b:z≤4):z=1∨z=2∨z=3∨z=4:=(show ∀ z,z < 5→1≤z→z=1∨z=2∨z=3∨z=4 by decide) z (Nat.lt_succ_of_le b) a
theorem hG (h:a < 128):(a+128 * n) % 128=a:=by rw[Nat.add_mul_mod_self_left,Nat.mod_eq_of_lt h]
theorem gR (h:a < 128):(a+128 * n) / 128=n:=by rw[Nat.add_mul_div_left _ _ (by decide),Nat.div_eq_of_lt h,Nat.zero_add]
theorem tH:∀ {m:List Nat},(∀ x∈l,0 < x∧x < 128)→(∀ x∈m,0 < x∧x < 128)→enc l=enc m→l=m:=by
 induction l with
 | nil =>
  intro m _ hm e
  cases m with
  | nil=>rfl
  | cons b m=>exact(qv (hm b (.head _)).1 e).elim
 | cons a l ih =>
  intro m hl hm e
  cases m with
  | nil=>exact(qv (hl a (.head _)).1 e.symm).elim
  | cons b m =>
   have h1:=(hl a (.head _)).2
   have h2:=(hm b (.head _)).2
   have e:a+128 * enc l=b+128 * enc m:=e
   have e1:a=b:=by rw[← hG h1 (n:=enc l),e,hG h2]
   have e2:enc l=enc m:=by rw[← gR h1 (n:=enc l),e,gR h2]
   rw[e1,ih (fun x hx=>hl x (.tail _ hx)) (fun x hx=>hm x (.tail _ hx)) e2]
theorem str_of_list {s t:Str}(h:s.cps.toList=t.cps.toList):s=t:=by
 obtain⟨⟨a⟩⟩:=s;obtain⟨⟨b⟩⟩:=t
 exact congrArg (fun l=>Str.mk ⟨l⟩) h
theorem ag.eq (a:ag s c)(b:ag t c):s=t:=str_of_list (tH a.ok b.ok (a.code.trans b.code.symm))
theorem ag.eq_iff {s t:Str}{c d:Nat}(a:ag s c)(b:ag t d):s=t↔c=d :=
 ⟨fun e=>by rw[← a.code,← b.code,e],fun e=>by subst e;exact a.eq b⟩
theorem ag.beq (a:ag s c)(b:ag t d):(s == t)=Nat.beq c d:=by
 have h:=a.eq_iff b
 by_cases q:c=d
 ·rw[h.mpr q,q];simp
 ·have:s≠t:=fun z=>q (h.mp z)
  have e1:(s == t)=false:=by simpa using this
  have e2:Nat.beq c d=false:=by
   cases z:Nat.beq c d with
   | false=>rfl
   | true=>exact absurd (aD z) q
  rw[e1,e2]
theorem m9 (h:∀ n,n < 13→(btV n).all p=true)(e:btV n=some v):p v=true:=by
 rcases Nat.lt_or_ge n 13 with l | l
 ·have:=h n l
  rw[e] at this;exact this
 ·obtain⟨m,rfl⟩:=Nat.exists_eq_add_of_le' l
  exact zns (show none=some _ from e)
noncomputable def cw (sz:List Nat)(t w n j:Nat):Option Vl :=
 if n=sz.length∧w=(if 256 < sz.foldl (· * ·) 1 then 1 else 0) then
  if t=3 then(if j≤n then some (.int (Int.ofNat ((sz.take j).foldl (· * ·) 1))) else none)
  else if t≤2 then(sz[j]?).map (hJ t) else none
 else none
structure Wd where
 K:Frag
 prog:Program
 w:World
 base:Heap
 os:OsState
 cls:Nat→Option Addr
 fn:Nat→Option Addr
 src:Addr
 cL:Nat→FuncData→Prop
 free:Nat→List Str
 tabs:Addr→Prop
 qual:Addr→Str
 on:Option Obj
 bJ:List Nat
 cY:(∀ z∈bJ,1≤z∧z≤4)∧bJ.length≤8
abbrev Io:=Nat→Option (Addr × Addr)
def Own (W:Wd)(ι:Io)(b:Addr):Prop:=b=W.src∨∃ k p,ι k=some p∧(b=p.1∨b=p.2)
mutual
inductive RV (W:Wd)(ι:Io)(h:Heap):Value→Vl→Prop
 | none:RV W ι h .none .none
 | bool (b):RV W ι h (.bool b) (.bool b)
 | int (i t):RV W ι h (.int i t) (.int i)
 | ge {i:Int}{n:Nat} (t):(n:Int)≤i→RV W ι h (.int i t) (.ge n)
 | str {s c} (t):ag s c→RV W ι h (.str s t) (.str c)
 | tup {a vs n l}:IsT h a vs n→l.length≤1000→RVs W ι h vs.toList l→¬ Own W ι a→RV W ι h (.ref a) (.tup l)
 | ref {a d k}:ι k=some (a,d)→RV W ι h (.ref a) (.ref k)
 | cls {k a}:W.cls k=some a→RV W ι h (.ref a) (.cls k)
 | fn {k a}:W.fn k=some a→RV W ι h (.ref a) (.fn k)
 | bt {k v}:btV k=some v→RV W ι h v (.bt k)
 | src:W.on=none→RV W ι h (.ref W.src) .src
 | any (a):RV W ι h (.ref a) .any
 | sy {v x t w n j}:cw W.bJ t w n j=some x→RV W ι h v x→RV W ι h v (.sy t w n j)
inductive RVs (W:Wd)(ι:Io)(h:Heap):List Value→List Vl→Prop
 | nil:RVs W ι h [] []
 | cons {v x vs xs}:RV W ι h v x→RVs W ι h vs xs→RVs W ι h (v :: vs) (x :: xs)
end
noncomputable def TC (o:Obj):Prop:=o.cls = .type "tuple"∨o.cls = .type "code"
def TD (o:Obj):Prop:=(∃ vs n,o.data = .seq vs n)∨∃ vs,o.data = .fields vs
def TK (W:Wd)(ι:Io)(h:Heap)(ι':Io)(h':Heap):Prop:=∀ b o,h.get? b=some o→TC o→TD o→¬ Own W ι b→h'.get? b=some o∧¬ Own W ι' b
theorem TD.dE (t:TD o)(d:o.data = .dict es n):False:=by
 revert t;refine oO (eE2 fun vs m q=>?_) (eE1 fun vs q=>?_)<;>(rw[d] at q;cases q)
theorem TC.ne (c:o.cls = .type T)(h1:T≠"tuple":=by decide)(h2:T≠"code":=by decide):¬ TC o:=fun z=>by
 rcases z with z | z<;>(rw[c] at z;injection z with z)
 ·exact h1 z
 ·exact h2 z
def Sub (ι ι':Io):Prop:=∀ k p,ι k=some p→ι' k=some p
section
variable {W:Wd}{ι ι1 ι2 ι3:Io}
theorem TK.refl (h:Heap):TK W ι h ι h:=fun b o e U U n=>⟨e,n⟩
theorem TK.trans (a:TK W ι1 h1 ι2 h2)(b:TK W ι2 h2 ι3 h3):TK W ι1 h1 ι3 h3:=fun x o e c d n=>b x _ (a x o e c d n).1 c d (a x o e c d n).2
theorem TK.of_keeps (k:∀ b o,h.get? b=some o→h'.get? b=some o):TK W ι h ι h':=fun b o e U U n=>⟨k b o e,n⟩
theorem TK.Er (k:∀ b o,h.get? b=some o→h'.get? b=some o)(n:∀ b,Own W ι2 b→Own W ι1 b∨h.get? b=none):TK W ι1 h ι2 h':=fun b o e U U no=>⟨k b o e,fun z=>by
 rcases n b z with z | z
 ·exact no z
 ·rw[z] at e;exact zns e⟩
end
theorem Sub.refl (ι:Io):Sub ι ι:=fun U U e=>e
theorem Sub.trans (x:Sub a b)(y:Sub b c):Sub a c:=fun k p e=>y k p (x k p e)
def RVi (W:Wd)(ι:Io)(h:Heap)(v:Value)(x:Vl):Prop:=@Vl.rec (fun U=>Prop) (fun U=>PUnit) (v = .none) (fun b=>v = .bool b) (fun i=>∃ t,v = .int i t) (fun n=>∃ (i:Int)(t:Tok),v = .int i t∧(n:Int)≤i) (fun c=>∃ s t,v = .str s t∧ag s c)
 (fun l U=>∃ a vs n,v = .ref a∧IsT h a vs n∧l.length≤1000∧RVs W ι h vs.toList l∧¬ Own W ι a) (fun k=>∃ a d,v = .ref a∧ι k=some (a,d)) (fun k=>∃ a,v = .ref a∧W.cls k=some a) (fun k=>∃ a,v = .ref a∧W.fn k=some a) (fun k=>btV k=some v)
 (v = .ref W.src∧W.on=none) False (∃ a,v = .ref a) (fun t w n j=>∃ x,cw W.bJ t w n j=some x∧RV W ι h v x) .unit (fun U U U U=>.unit) x
theorem RV.inv (r:RV W ι h v x):RVi W ι h v x :=
 RV.casesOn (motive_1:=fun v x U=>RVi W ι h v x) r rfl (fun U=>rfl) (fun U t=>⟨t,rfl⟩) (fun t h=>⟨_,t,rfl,h⟩) (fun t h=>⟨_,t,rfl,h⟩) (fun g l r no=>⟨_,_,_,rfl,g,l,r,no⟩) (fun e=>⟨_,_,rfl,e⟩) (fun e=>⟨_,rfl,e⟩) (fun e=>⟨_,rfl,e⟩) (fun e=>e) (fun e=>⟨rfl,e⟩) (fun a=>⟨a,rfl⟩) (fun e r=>⟨_,e,r⟩)
def Iv (W:Wd)(ι:Io)(h:Heap)(vs:List Value)(xs:List Vl):Prop:=@List.rec Vl (fun U=>Prop) (vs=[]) (fun x xs U=>∃ v r,vs=v :: r∧RV W ι h v x∧RVs W ι h r xs) xs
theorem RVs.inv (r:RVs W ι h vs xs):Iv W ι h vs xs :=
 RVs.casesOn (motive_2:=fun vs xs U=>Iv W ι h vs xs) r rfl (fun a b=>⟨_,_,rfl,a,b⟩)
theorem RV.mono (s:Sub ι ι')(t:TK W ι h ι' h')(r:RV W ι h v x):RV W ι' h' v x :=
 RV.rec (motive_1:=fun v x U=>RV W ι' h' v x) (motive_2:=fun vs xs U=>RVs W ι' h' vs xs) .none .bool .int (fun t h=>.ge t h) (fun t h=>.str t h) (fun e l U no ih=>.tup (t _ _ e (.inl rfl) (.inl ⟨_,_,rfl⟩) no).1 l ih (t _ _ e (.inl rfl) (.inl ⟨_,_,rfl⟩) no).2) (fun e=>.ref (s _ _ e)) (fun e=>.cls e) (fun e=>.fn e) (fun e=>.bt e) (fun e=>.src e) .any (fun e U r=>.sy e r)
  .nil (fun U U a b=>.cons a b) r
theorem RVs.mono (s:Sub ι ι')(t:TK W ι h ι' h')(r:RVs W ι h v x):RVs W ι' h' v x:=by
 induction x generalizing v with
 | nil=>rw[show v=[] from r.inv];exact .nil
 | cons x xs ih =>
  refine eE2 (fun v r'=>aA3 fun z3q2 a b=>?_) (r.inv);obtain rfl:=z3q2
  exact .cons (a.mono s t) (ih b)
section
variable {W:Wd}{ι:Io}{h:Heap}
theorem RVs.length (r:RVs W ι h vs xs):vs.length=xs.length:=by
 induction xs generalizing vs with
 | nil=>rw[show vs=[] from r.inv];rfl
 | cons x xs ih=>refine eE2 (fun v r'=>aA3 fun z4q2 a b=>?_) (r.inv);obtain rfl:=z4q2;exact congrArg Nat.succ (ih b)
theorem RVs.get {vs:List Value}{xs:List Vl}{i:Nat}{x:Vl}(r:RVs W ι h vs xs)(e:xs[i]? = some x):∃ v,vs[i]? = some v∧RV W ι h v x:=by
 induction xs generalizing vs i with
 | nil=>exact zns e
 | cons y xs ih =>
  refine eE2 (fun v r'=>aA3 fun z5q2 a b=>?_) (r.inv);obtain rfl:=z5q2
  cases i with
  | zero=>exact⟨v,rfl,ab e▸a⟩
  | succ i=>exact ih (vs:=r') (i:=i) b e
theorem RVs.append (r:RVs W ι h vs xs)(b:RVs W ι h ws ys):RVs W ι h (vs++ws) (xs++ys):=by
 induction xs generalizing vs with
 | nil=>rw[show vs=[] from r.inv];exact b
 | cons x xs ih=>refine eE2 (fun v r'=>aA3 fun z6q2 a c=>?_) (r.inv);obtain rfl:=z6q2;exact .cons a (ih c)
theorem RVs.reverse (r:RVs W ι h vs xs):RVs W ι h vs.reverse xs.reverse:=by
 induction xs generalizing vs with
 | nil=>rw[show vs=[] from r.inv];exact .nil
 | cons x xs ih=>refine eE2 (fun v r'=>aA3 fun z7q2 a c=>?_) (r.inv);obtain rfl:=z7q2;rw[List.reverse_cons,List.reverse_cons];exact(ih c).append (.cons a .nil)
theorem RVs.take (n:Nat)(r:RVs W ι h vs xs):RVs W ι h (vs.take n) (xs.take n):=by
 induction xs generalizing vs n with
 | nil=>rw[show vs=[] from r.inv,List.take_nil,List.take_nil];exact .nil
 | cons x xs ih =>
  refine eE2 (fun v r'=>aA3 fun z8q2 a c=>?_) (r.inv);obtain rfl:=z8q2
  cases n with
  | zero=>exact .nil
  | succ n=>exact .cons a (ih n c)
theorem RVs.drop (n:Nat)(r:RVs W ι h vs xs):RVs W ι h (vs.drop n) (xs.drop n):=by
 induction xs generalizing vs n with
 | nil=>rw[show vs=[] from r.inv,List.drop_nil,List.drop_nil];exact .nil
 | cons x xs ih =>
  cases n with
  | zero=>exact r
  | succ n=>refine eE2 (fun v r'=>aA3 fun z9q2 a c=>?_) (r.inv);obtain rfl:=z9q2;exact ih n c
theorem RVs.set (n:Nat)(r:RVs W ι h vs xs)(b:RV W ι h v x):RVs W ι h (vs.set n v) (xs.set n x):=by
 induction xs generalizing vs n with
 | nil=>rw[show vs=[] from r.inv];exact .nil
 | cons y xs ih =>
  refine eE2 (fun v r'=>aA3 fun z10q2 a c=>?_) (r.inv);obtain rfl:=z10q2
  cases n with
  | zero=>exact .cons b c
  | succ n=>exact .cons a (ih n c)
theorem RVs.replicate (a:RV W ι h v x):∀ n:Nat,RVs W ι h (List.replicate n v) (List.replicate n x):=fun n=>by
 induction n with
 | zero=>exact .nil
 | succ n ih=>exact .cons a ih
end
inductive RK (W:Wd)(ι:Io)(h:Heap):List (Str × Value)→List (Nat × Vl)→Prop
 | nil:RK W ι h [] []
 | cons {s c v x es l}:ag s c→RV W ι h v x→RK W ι h es l→RK W ι h ((s,v) :: es) ((c,x) :: l)
def RKi (W:Wd)(ι:Io)(h:Heap)(es:List (Str × Value))(l:List (Nat × Vl)):Prop:=@List.rec (Nat × Vl) (fun U=>Prop) (es=[]) (fun p r U=>∃ s v es',es=(s,v) :: es'∧ag s p.1∧RV W ι h v p.2∧RK W ι h es' r) l
theorem RK.inv (r:RK W ι h es l):RKi W ι h es l :=
 RK.casesOn (motive:=fun es l U=>RKi W ι h es l) r rfl (fun a b c=>⟨_,_,_,rfl,a,b,c⟩)
theorem RK.mono (s:Sub ι ι')(t:TK W ι h ι' h')(r:RK W ι h es l):RK W ι' h' es l :=
 RK.rec (motive:=fun es l U=>RK W ι' h' es l) .nil (fun a b U d=>.cons a (b.mono s t) d) r
noncomputable abbrev Wd.sk (W:Wd):KeyKind W.prog W.w Str:=strKind W.prog W.w
inductive cz (W:Wd)(ι:Io)(h:Heap)(cv:Value)(q:Str):Prop where
 | mk (c:Addr)(oc:Obj)(vs:Array Value)(t:Tok)(e:cv = .ref c)(g:h.get? c=some oc)(k:oc.cls = .type "code")(d:oc.data = .fields vs)(v:vs[1]? = some (.str q t))(no:¬ Own W ι c)
theorem cz.mono {W:Wd}{ι ι':Io}{h h':Heap}{cv:Value}{q:Str}(t:TK W ι h ι' h')(x:cz W ι h cv q):cz W ι' h' cv q:=by
 obtain⟨c,oc,vs,tk,e,g,k,d,v,no⟩:=x
 have:=t c oc g (.inr k) (.inr ⟨vs,d⟩) no
 exact⟨c,oc,vs,tk,e,this.1,k,d,v,this.2⟩
def OkI (c:Nat)(o:Obj):Prop:=notCls o=true∧(c < 1000→∀ vs,o.data = .fields vs→vs[2]? = some .none)
section
variable (W:Wd)(ι:Io)(h:Heap)(p:Addr × Addr)
inductive ROL (l:List Vl):Prop where
 | mk (e:p.2=p.1)(ln:l.length≤1000)(vs:Array Value)(n:Nat)(g:IsL h p.1 vs n)(r:RVs W ι h vs.toList l)
inductive ROD (l:List (Nat × Vl)):Prop where
 | mk (e:p.2=p.1)(ln:l.length≤1000)(kvs:List (Str × Value))(g:h.DictOf W.sk p.1 kvs)(r:RK W ι h kvs l)
inductive ROI (c:Nat)(l:List (Nat × Vl)):Prop where
 | mk (ln:l.length≤1000)(ne:p.2≠p.1)(C:Addr)(o:Obj)(kvs:List (Str × Value))(hC:W.cls c=some C)(g:h.get? p.1=some o)(k:o.cls = .ref C)(d:o.dict=some p.2)(ok:OkI c o)(g2:h.DictOf W.sk p.2 kvs)(r:RK W ι h kvs l)
inductive ROC (v:Vl):Prop where
 | mk (e:p.2=p.1)(o:Obj)(ov:Option Value)(g:h.get? p.1=some o)(k:o.cls = .type "cell")(d:o.data = .cell ov)(r:v = .unset∨∃ x,ov=some x∧RV W ι h x v)
inductive ROF (f:Nat)(js:List Nat):Prop where
 | mk (e:p.2=p.1)(o:Obj)(fd:FuncData)(g:h.get? p.1=some o)(k:o.cls = .type "function")(d:o.data = .func fd)(c:W.cL f fd)(ca:cz W ι h fd.code fd.qualname)(r:∀ (i:Nat)(n:Str),(W.free f)[i]? = some n→∃ a j d,fd.closure.lookup n=some a∧(js:List Nat)[i]? = some j∧ι j=some (a,d))
end
@[reducible] noncomputable def RO (W:Wd)(ι:Io)(h:Heap)(p:Addr × Addr):Ob→Prop
 | .list l=>ROL W ι h p l
 | .dict l=>ROD W ι h p l
 | .inst c l=>ROI W ι h p c l
 | .cell v=>ROC W ι h p v
 | .cL f js=>ROF W ι h p f js
 | .eW=>p.2=p.1∧∃ a b,IsPair h p.1 a b
def Br (W:Wd)(o:Obj):Prop:=o.cls≠.type "code"∧(W.on=none→∃ x y:Int,∃ t u n,o=({ cls:=.type "list",dict:=none,data:=.seq #[.int x t,.int y u] n,slots:=#[] }:Obj)∧0≤x∧0≤y∧y < 2147483647∧x.natAbs.log2≤2 ^ 21)∧∀ x,W.on=some x→o=x
structure Src (W:Wd)(h:Heap):Prop where
 at_:∃ o,h.get? W.src=some o∧Br W o
noncomputable def Hp.n:Hp→Nat
 | .mk n _=>n
noncomputable def Hp.t:Hp→Tri Ob
 | .mk _ t=>t
noncomputable def frs (fs:List Env):List Addr:=fs.filterMap (·.frame)
structure St (W:Wd)(fs:List Env)(ι:Io)(h:Hp)(s:Shared):Prop where
 bo:W.K.In W.base
 bp:W.base.NoLimit
 mods:∃ o,W.base.get? sysModules=some o
 ground:W.K.In s.heap
 old:OldK W.base s.heap
 lim:s.heap.NoLimit
 frames:s.heap.FunFrames W.base fs
 frd:∀ L∈frs fs,∃ o es n,s.heap.get? L=some o∧o.data = .dict es n
 live:∀ k o,h.t.get k=some o→∃ p,ι k=some p∧RO W ι s.heap p o
 dom:∀ k p,ι k=some p→k < h.n∧∃ o,h.t.get k=some o
 apart:∀ k k' p p',ι k=some p→ι k'=some p'→k≠k'→p.1≠p'.1∧p.1≠p'.2∧p.2≠p'.1∧p.2≠p'.2
 fresh:∀ b,Own W ι b→W.base.get? b=none∧b∉frs fs
 aF:∀ k p,ι k=some p→p.1≠W.src∧p.2≠W.src
 src:Src W s.heap
 gens:s.gens=#[]
 os:s.os=W.os
 tabs:∀ P,W.tabs P→∃ ps,(∃ o,W.base.get? P=some o)∧s.heap.get? P=some (tabObj ps)∧TriplesOk ps.toList∧∀ pos cv,codeAmong pos ps.toList=some cv→cz W ι s.heap cv (W.qual P)
structure Ext (W:Wd)(X:Addr→Prop)(ι:Io)(h:Heap)(ι':Io)(h':Heap):Prop where
 sub:Sub ι ι'
 tk:TK W ι h ι' h'
 keep:∀ b o,h.get? b=some o→(o.cls≠.none∨W.base.get? b=none)→¬ Own W ι b→¬ X b→∃ sl,h'.get? b=some { o with slots:=sl }∧((∀ es n,o.data≠.dict es n)→sl=o.slots)
 dom:∀ b o,h.get? b=some o→∃ o',h'.get? b=some o'
 new:∀ b,Own W ι' b→Own W ι b∨h.get? b=none
def noX:Addr→Prop:=fun U=>False
section
variable {W:Wd}{X Y:Addr→Prop}{fs:List Env}{ι ι' ι'':Io}{h h' h'':Heap}
theorem Ext.refl:Ext W X ι h ι h:=⟨Sub.refl _,TK.refl _,fun b o e U U U=>⟨o.slots,e,fun U=>rfl⟩,fun b o e=>⟨o,e⟩,fun b x=>.inl x⟩
theorem Own.mono (s:Sub ι ι'){b:Addr}:Own W ι b→Own W ι' b
 | .inl e=>.inl e
 | .inr ⟨k,p,e,q⟩=>.inr ⟨k,p,s _ _ e,q⟩
theorem Ext.trans (a:Ext W X ι h ι' h')(b:Ext W X ι' h' ι'' h''):Ext W X ι h ι'' h'':=by
 refine⟨a.sub.trans b.sub,a.tk.trans b.tk,fun x o e c no nx=>?_,fun x o e=>?_,fun x q=>?_⟩
 ·refine bC fun G=>?_;refine eE1 (fun sl=>aA2 fun e1 q1=>?_) (a.keep x o e c no nx)
  have no':¬ Own W ι' x:=fun z=>by
   rcases a.new x z with z | z
   ·exact no z
   ·rw[z] at e;exact zns e
  refine eE1 (fun sl2=>aA2 fun e2 q2=>?_) (b.keep x _ e1 c no' nx)
  apply G;exact⟨sl2,e2,fun z=>(q2 z).trans (q1 z)⟩
 ·obtain⟨o1,e1⟩:=a.dom x o e
  exact b.dom x o1 e1
 ·rcases b.new x q with q | q
  ·exact a.new x q
  ·right
   cases z:h.get? x with
   | none=>rfl
   | some o =>
    refine bC fun G=>?_;obtain⟨o1,e1⟩:=a.dom x o z
    rw[q] at e1;exact zns e1
theorem Ext.weaken (a:Ext W X ι h ι' h')(f:∀ b,X b→Y b):Ext W Y ι h ι' h':=⟨a.sub,a.tk,fun b o e c no ny=>a.keep b o e c no fun z=>ny (f b z),a.dom,a.new⟩
theorem Ext.drop (a:Ext W Y ι h ι' h')(f:∀ b,Y b→X b∨h.get? b=none):Ext W X ι h ι' h':=by
 refine⟨a.sub,a.tk,fun b o e c no nx=>a.keep b o e c no fun z=>?_,a.dom,a.new⟩
 rcases f b z with z | z
 ·exact nx z
 ·rw[z] at e;exact zns e
theorem Ext.of_keeps (k:∀ b o,h.get? b=some o→h'.get? b=some o):Ext W X ι h ι h':=⟨Sub.refl _,TK.of_keeps k,fun b o e U U U=>⟨o.slots,k b o e,fun U=>rfl⟩,fun b o e=>⟨o,k b o e⟩,fun b x=>.inl x⟩
theorem Ext.none (a:Ext W X ι h ι' h')(e:h'.get? b=Option.none):h.get? b=Option.none:=by
 cases z:h.get? b with
 | none=>rfl
 | some o =>
  obtain⟨o1,e1⟩:=a.dom b o z
  rw[e] at e1;exact zns e1
theorem RV.ext (a:Ext W X ι h ι' h')(r:RV W ι h v x):RV W ι' h' v x:=r.mono a.sub a.tk
theorem RVs.ext (a:Ext W X ι h ι' h')(r:RVs W ι h v x):RVs W ι' h' v x:=r.mono a.sub a.tk
theorem RO.mono (s:Sub ι ι')(t:TK W ι h ι' h')(k1:∀ x,h.get? p.1=some x→h'.get? p.1=some x)(k2:∀ x,h.get? p.2=some x→h'.get? p.2=some x)
  (r:RO W ι h p o):RO W ι' h' p o:=by
 cases o with
 | list l =>
  obtain⟨e,ln,vs,n,g,r⟩:=r
  exact⟨e,ln,vs,n,k1 _ g,r.mono s t⟩
 | dict l =>
  obtain⟨e,ln,kvs,g,r⟩:=r
  exact⟨e,ln,kvs,g.at k1,r.mono s t⟩
 | inst c l =>
  obtain⟨ln,ne,C,x,kvs,hC,g,c,d,nc,g2,r⟩:=r
  exact⟨ln,ne,C,_,kvs,hC,k1 _ g,c,d,nc,g2.at k2,r.mono s t⟩
 | cell v =>
  obtain⟨e,x,ov,g,c,d,r⟩:=r
  refine⟨e,_,ov,k1 _ g,c,d,?_⟩
  revert r;refine oO (fun r=>?_) (eE1 fun y=>aA2 fun ey r=>?_)
  ·exact .inl r
  ·exact .inr ⟨y,ey,r.mono s t⟩
 | cL f js =>
  obtain⟨e,x,fd,g,c,d,wc,ca,r⟩:=r
  exact⟨e,_,fd,k1 _ g,c,d,wc,ca.mono t,fun i n q=>by
   refine eE3 (fun a j dd=>aA3 fun h1 h2 h3=>?_) (r i n q)
   exact⟨a,j,dd,h1,h2,s _ _ h3⟩⟩
 | eW =>
  revert r;refine aA2 fun e=>eE2 fun a b g=>?_
  exact⟨e,a,b,k1 _ g⟩
theorem mH (g:h.DictOf W.sk a kvs):∃ x,h.get? a=some x∧x.cls≠.none:=by
 revert g;refine eE3 fun o U U=>aA3 fun e x U=>?_
 exact⟨o,e,by rw[x.1];decide⟩
theorem RO.at (r:RO W ι h p o):∃ x,h.get? p.1=some x∧x.cls≠.none:=by
 cases o with
 | list l=>obtain⟨_,_,_,_,g,_⟩:=r;exact⟨_,g,(fun z=>nomatch z)⟩
 | dict l=>obtain⟨_,_,kvs,g,_⟩:=r;exact mH g
 | inst c l=>obtain⟨_,_,C,x,_,_,g,c,_⟩:=r;exact⟨x,g,(by rw[c];intro z;injection z)⟩
 | cell v=>obtain⟨_,x,_,g,c,_⟩:=r;exact⟨x,g,by rw[c];decide⟩
 | cL f js=>obtain⟨_,x,_,g,c,_⟩:=r;exact⟨x,g,by rw[c];decide⟩
 | eW=>revert r;refine aA2 fun U=>eE2 fun a b g=>?_;exact⟨_,g,(fun z=>nomatch z)⟩
theorem RO.at2 (r:RO W ι h p o):∃ x,h.get? p.2=some x∧x.cls≠.none:=by
 cases o with
 | list l=>have:=RO.at r;rw[← r.1] at this;exact this
 | dict l=>have:=RO.at r;rw[← r.1] at this;exact this
 | inst c l=>obtain⟨_,_,C,_,_,_,_,_,_,_,g,_⟩:=r;exact mH g
 | cell v=>have:=RO.at r;rw[← r.1] at this;exact this
 | cL f js=>have:=RO.at r;rw[← r.1] at this;exact this
 | eW=>have:=RO.at r;rw[← r.1] at this;exact this
end
theorem Tri.get_nil (i:Nat):(Tri.nil:Tri α).get i=none:=rfl
theorem Tri.get_node (o:Option α)(l r:Tri α)(i:Nat):(Tri.node o l r).get i=if i=0 then o else if i % 2=1 then l.get (i / 2) else r.get (i / 2 - 1):=by
 show(@Bool.rec (fun U=>Option α) (@Bool.rec (fun U=>Option α) (r.get (i / 2 - 1)) (l.get (i / 2)) (Nat.beq (i % 2) 1)) o (Nat.beq i 0))=_
 by_cases h:i=0
 ·subst h;rfl
 ·have e:Nat.beq i 0=false:=by
   cases z:Nat.beq i 0 with
   | false=>rfl
   | true=>exact absurd (aD z) h
  rw[e,if_neg h]
  by_cases q:i % 2=1
  ·rw[q];rfl
  ·have e:Nat.beq (i % 2) 1=false:=by
    cases z:Nat.beq (i % 2) 1 with
    | false=>rfl
    | true=>exact absurd (aD z) q
   rw[e,if_neg q]
theorem Tri.yr (v : α)(n i:Nat):Tri.one v (n+1) i=if i=0 then .node (some v) .nil .nil else if i % 2=1 then .node none (Tri.one v n (i / 2)) .nil else .node none .nil (Tri.one v n (i / 2 - 1)):=by
 show(@Bool.rec (fun U=>Tri α) (@Bool.rec (fun U=>Tri α) (.node .none .nil (Tri.one v n (i / 2 - 1))) (.node .none (Tri.one v n (i / 2)) .nil) (Nat.beq (i % 2) 1)) (.node (some v) .nil .nil) (Nat.beq i 0))=_
 by_cases h:i=0
 ·subst h;rfl
 ·have e:Nat.beq i 0=false:=by
   cases z:Nat.beq i 0 with
   | false=>rfl
   | true=>exact absurd (aD z) h
  rw[e,if_neg h]
  by_cases q:i % 2=1
  ·rw[q];rfl
  ·have e:Nat.beq (i % 2) 1=false:=by
    cases z:Nat.beq (i % 2) 1 with
    | false=>rfl
    | true=>exact absurd (aD z) q
   rw[e,if_neg q]
theorem pf {i j:Nat}(p:i % 2=1)(r:j % 2=1):(j / 2=i / 2)=(j=i):=
 propext ⟨fun e=>(Nat.div_add_mod j 2).symm.trans ((by rw[e,r,p]:2 * (j / 2)+j % 2=2 * (i / 2)+i % 2).trans (Nat.div_add_mod i 2)),fun e=>by rw[e]⟩
theorem oJ (h:i≠0)(p:¬ i % 2=1):0 < i / 2:=Nat.pos_of_ne_zero fun z=>h (by have:=Nat.div_add_mod i 2;rw[z,(Nat.mod_two_eq_zero_or_one i).resolve_right p] at this;exact this.symm)
theorem sX {i j:Nat}(h:i≠0)(q:j≠0)(p:¬ i % 2=1)(r:¬ j % 2=1):(j / 2 - 1=i / 2 - 1)=(j=i):=
 propext ⟨fun e=>(Nat.div_add_mod j 2).symm.trans ((by rw[Nat.sub_one_cancel (oJ q r) (oJ h p) e,(Nat.mod_two_eq_zero_or_one i).resolve_right p,(Nat.mod_two_eq_zero_or_one j).resolve_right r]:2 * (j / 2)+j % 2=2 * (i / 2)+i % 2).trans (Nat.div_add_mod i 2)),fun e=>by rw[e]⟩
theorem half_lt (h0:i≠0)(h:i < n+1):i / 2 < n∧i / 2 - 1 < n :=
 have h1:i / 2 < n:=Nat.lt_of_lt_of_le (Nat.div_lt_self (Nat.pos_of_ne_zero h0) (by decide)) (Nat.le_of_lt_succ h)
 ⟨h1,Nat.lt_of_le_of_lt (Nat.sub_le _ _) h1⟩
theorem Tri.AI (v : α)(n:Nat):∀ (i j:Nat),i < n→(Tri.one v n i).get j=if j=i then some v else none:=by
 induction n with
 | zero=>exact fun U U h=>absurd h (Nat.not_lt_zero _)
 | succ n ih =>
  intro i j h
  rw[Tri.yr]
  by_cases h0:i=0
  ·subst h0
   rw[if_pos rfl,Tri.get_node]
   by_cases q:j=0
   ·rw[if_pos q,if_pos q]
   ·rw[if_neg q,if_neg q];split<;>rfl
  ·rw[if_neg h0]
   obtain⟨l1,l2⟩:=half_lt h0 h
   by_cases p:i % 2=1
   ·rw[if_pos p,Tri.get_node,ih (i / 2) (j / 2) l1]
    by_cases q:j=0
    ·rw[if_pos q,if_neg fun e=>h0 (e.symm.trans q)]
    ·rw[if_neg q]
     by_cases r:j % 2=1
     ·rw[if_pos r];simp only[pf p r]
     ·rw[if_neg r,if_neg fun e:j=i=>r (by rw[e];exact p)];rfl
   ·rw[if_neg p,Tri.get_node,ih (i / 2 - 1) (j / 2 - 1) l2]
    by_cases q:j=0
    ·rw[if_pos q,if_neg fun e=>h0 (e.symm.trans q)]
    ·rw[if_neg q]
     by_cases r:j % 2=1
     ·rw[if_pos r,if_neg fun e:j=i=>p (by rw[← e];exact r)];rfl
     ·rw[if_neg r];simp only[sX h0 q p r]
theorem Tri.set_node (v : α)(o:Option α)(l r:Tri α)(i:Nat):(Tri.node o l r).set v i=if i=0 then .node (some v) l r else if i % 2=1 then .node o (l.set v (i / 2)) r else .node o l (r.set v (i / 2 - 1)):=by
 show(@Bool.rec (fun U=>Tri α) (@Bool.rec (fun U=>Tri α) (.node o l (r.set v (i / 2 - 1))) (.node o (l.set v (i / 2)) r) (Nat.beq (i % 2) 1)) (.node (some v) l r) (Nat.beq i 0))=_
 by_cases h:i=0
 ·subst h;rfl
 ·have e:Nat.beq i 0=false:=by
   cases z:Nat.beq i 0 with
   | false=>rfl
   | true=>exact absurd (aD z) h
  rw[e,if_neg h]
  by_cases q:i % 2=1
  ·rw[q];rfl
  ·have e:Nat.beq (i % 2) 1=false:=by
    cases z:Nat.beq (i % 2) 1 with
    | false=>rfl
    | true=>exact absurd (aD z) q
   rw[e,if_neg q]
theorem Tri.get_set (v : α)(t:Tri α):∀ (i j:Nat),(t.set v i).get j=if j=i then some v else t.get j:=by
 induction t with
 | nil=>exact fun i j=>(Tri.AI v (i+1) i j (Nat.lt_succ_self i)).trans (by rw[Tri.get_nil])
 | node o l r ihl ihr =>
  intro i j
  rw[Tri.set_node]
  by_cases h0:i=0
  ·subst h0
   rw[if_pos rfl,Tri.get_node,Tri.get_node]
   by_cases q:j=0
   ·rw[if_pos q,if_pos q]
   ·rw[if_neg q,if_neg q,if_neg q]
  ·rw[if_neg h0]
   by_cases p:i % 2=1
   ·rw[if_pos p,Tri.get_node,Tri.get_node,ihl]
    by_cases q:j=0
    ·rw[if_pos q,if_neg fun e=>h0 (e.symm.trans q),if_pos q]
    ·rw[if_neg q,if_neg q]
     by_cases r:j % 2=1
     ·rw[if_pos r,if_pos r];simp only[pf p r]
     ·rw[if_neg r,if_neg r,if_neg fun e:j=i=>r (by rw[e];exact p)]
   ·rw[if_neg p,Tri.get_node,Tri.get_node,ihr]
    by_cases q:j=0
    ·rw[if_pos q,if_neg fun e=>h0 (e.symm.trans q),if_pos q]
    ·rw[if_neg q,if_neg q]
     by_cases r:j % 2=1
     ·rw[if_pos r,if_pos r,if_neg fun e:j=i=>p (by rw[← e];exact r)]
     ·rw[if_neg r,if_neg r];simp only[sX h0 q p r]
def Hp.set (h:Hp)(i:Nat)(o:Ob):Hp:=.mk h.n (h.t.set o i)
def Hp.add (h:Hp)(o:Ob):Hp:=.mk (h.n+1) (h.t.set o h.n)
theorem bl (h:Hp)(i:Nat)(o:Ob)(k:Hp→Bool):aX h i o k=k (h.set i o):=by cases h;rfl
theorem aT (h:Hp)(o:Ob)(k:Nat→Hp→Bool):bM h o k=k h.n (h.add o):=by cases h;rfl
theorem af (e:aL h i k=true):∃ o,h.t.get i=some o∧k o=true:=by
 cases h with
 | mk n t =>
  have e:(@Option.rec Ob (fun U=>Bool) false k (t.get i))=true:=e
  show ∃ o,t.get i=some o∧_
  cases q:t.get i with
  | none=>rw[q] at e;(first | exact nf e | exact ns e | cases e)
  | some o=>rw[q] at e;exact⟨o,rfl,e⟩
section
variable {W:Wd}{fs:List Env}{ι:Io}{H:Hp}{s:Shared}
theorem St.ro (S:St W fs ι H s)(e:ι k=some p)(g:H.t.get k=some o):RO W ι s.heap p o:=by
 refine eE1 (fun q=>aA2 fun e' r=>?_) (S.live k o g)
 rw[e] at e';replace e':=ab e';subst e';exact r
theorem St.get (S:St W fs ι H s)(r:RV W ι s.heap v (.ref k))(g:H.t.get k=some o):∃ p,ι k=some p∧v = .ref p.1∧RO W ι s.heap p o:=by
 refine eE2 (fun U U=>aA2 fun z3q2 e=>?_) (r.inv);obtain rfl:=z3q2;next=>exact⟨_,e,rfl,S.ro e g⟩
theorem St.keeps (S:St W fs ι H s)(k:∀ b o,s.heap.get? b=some o→h'.get? b=some o):St W fs ι H ⟨h',s.gens,dr,tk,s.os⟩ where
 bo:=S.bo
 bp:=S.bp
 mods:=S.mods
 ground:=S.ground.keeps k
 old:=S.old.step_keeps k
 lim:=S.lim.keeps k
 frames:=S.frames.of_keeps fun b o e U=>⟨o,k b o e,rfl⟩
 frd:=fun L m=>by
  refine eE3 (fun o es n=>aA2 fun g d=>?_) (S.frd L m)
  exact⟨o,es,n,k _ _ g,d⟩
 live:=fun i o e=>by
  refine eE1 (fun p=>aA2 fun a r=>?_) (S.live i o e)
  exact⟨p,a,r.mono (Sub.refl _) (TK.of_keeps k) (fun x e=>k _ _ e) (fun x e=>k _ _ e)⟩
 dom:=S.dom
 apart:=S.apart
 fresh:=S.fresh
 aF:=S.aF
 src:=by
  refine bC fun G=>?_;obtain⟨⟨o,g,r⟩⟩:=S.src
  apply G;exact⟨⟨o,k _ _ g,r⟩⟩
 gens:=S.gens
 os:=S.os
 tabs:=fun P m=>by
  refine eE1 (fun ps=>aA4 fun b g t c=>?_) (S.tabs P m)
  exact⟨ps,b,k _ _ g,t,fun pos cv e=>(c pos cv e).mono (TK.of_keeps k)⟩
theorem St.toks (S:St W fs ι H s)(tk:Nat):St W fs ι H { s with toks:=tk }:=S.keeps fun U U e=>e
noncomputable def aH (ι:Io)(n:Nat)(p:Addr × Addr):Io:=fun k=>if k=n then some p else ι k
theorem ao (ι:Io)(n:Nat)(p:Addr × Addr):aH ι n p n=some p:=if_pos rfl
theorem aN (e:ι n=none):Sub ι (aH ι n p):=fun k q x=>by
 unfold aH
 rw[if_neg (fun z=>by rw[z,e] at x;exact zns x)]
 exact x
theorem St.unused (S:St W fs ι H s):ι H.n=none:=by
 cases e:ι H.n with
 | none=>rfl
 | some p=>exact absurd (S.dom _ _ e).1 (Nat.lt_irrefl _)
theorem St.Ad (S:St W fs ι H s):H.t.get H.n=none:=by
 cases e:H.t.get H.n with
 | none=>rfl
 | some o =>
  refine eE1 (fun p=>aA2 fun a U=>?_) (S.live _ _ e)
  rw[S.unused] at a;exact zns a
theorem St.iH (S:St W fs ι H s)(o:Own W ι b):∃ x,s.heap.get? b=some x:=by
 refine bC fun G=>?_;rcases o with rfl | ⟨k,p,e,q⟩
 ·obtain⟨⟨o,g,r⟩⟩:=S.src;apply G;exact⟨o,g⟩
 ·refine aA2 (fun U=>eE1 fun ob g=>?_) (S.dom _ _ e)
  have r:=S.ro e g
  rcases q with rfl | rfl
  ·refine eE1 (fun x=>aA2 fun g U=>?_) (r.at);apply G;exact⟨x,g⟩
  ·refine eE1 (fun x=>aA2 fun g U=>?_) (r.at2);apply G;exact⟨x,g⟩
theorem aw {h:Heap}{b:Addr}(f:h.objs.size≤b):h.get? b=none:=by
 cases e:h.get? b with
 | none=>rfl
 | some o=>exact absurd (Heap.lt_size e) (Nat.not_lt.mpr f)
theorem St.dg (S:St W fs ι H s)(e:s.heap.get? b=none):W.base.get? b=none:=by
 cases z:W.base.get? b with
 | none=>rfl
 | some o =>
  obtain⟨o',g⟩:=S.old.there b o z
  rw[e] at g;exact zns g
theorem St.lh (S:St W fs ι H s)(m:b∈frs fs):∃ o,s.heap.get? b=some o:=by
 refine aA2 (fun U=>eE1 fun o=>aA2 fun g U=>?_) (S.frames.mem m)
 exact⟨o,g⟩
set_option tactic.hygienic true in
theorem St.new (S:St W fs ι H s)(k:∀ b o,s.heap.get? b=some o→h'.get? b=some o)
  (f1:s.heap.get? p.1=none)(f2:s.heap.get? p.2=none)(r:TK W ι s.heap (aH ι H.n p) h'→RO W (aH ι H.n p) h' p o):St W fs (aH ι H.n p) (H.add o) ⟨h',s.gens,dr,tk,s.os⟩∧Ext W noX ι s.heap (aH ι H.n p) h':=by
 have sub:=aN (p:=p) S.unused
 have lt:∀ {b x},s.heap.get? b=some x→b≠p.1∧b≠p.2:=fun {b x} e=>⟨fun z=>(by rw[z,f1] at e;exact zns e),fun z=>(by rw[z,f2] at e;exact zns e)⟩
 have old:∀ {i q},ι i=some q→(q.1≠p.1∧q.1≠p.2)∧(q.2≠p.1∧q.2≠p.2):=fun {i q} e=>by
  obtain⟨x,gx⟩:=S.iH (.inr ⟨i,q,e,.inl rfl⟩)
  obtain⟨y,gy⟩:=S.iH (.inr ⟨i,q,e,.inr rfl⟩)
  exact⟨lt gx,lt gy⟩
 have K:=S.keeps k (tk:=tk) (dr:=dr)
 have nsrc:W.src≠p.1∧W.src≠p.2:=by
  obtain⟨x,g⟩:=S.iH (.inl rfl)
  exact lt g
 have gget:∀ j,(H.add o).t.get j=if j=H.n then some o else H.t.get j:=fun j=>Tri.get_set o H.t H.n j
 have nown:∀ b,Own W (aH ι H.n p) b→Own W ι b∨b=p.1∨b=p.2:=fun b ob=>by
  rcases ob with rfl | ⟨k',q,e,q'⟩
  ·exact .inl (.inl rfl)
  ·unfold aH at e
   split at e
   ·replace e:=ab e;subst e;exact .inr q'
   ·exact .inl (.inr ⟨k',q,e,q'⟩)
 have nw:∀ b,Own W (aH ι H.n p) b→Own W ι b∨s.heap.get? b=none:=fun b ob=>by
  rcases nown b ob with h | rfl | rfl
  ·exact .inl h
  ·exact .inr f1
  ·exact .inr f2
 have tkn:TK W ι s.heap (aH ι H.n p) h':=.Er k nw
 replace r:=r tkn
 refine⟨⟨S.bo,S.bp,S.mods,K.ground,K.old,K.lim,K.frames,K.frd,fun i ob e=>?_,fun i q e=>?_,fun i j q q' e e' ne=>?_,fun b ob=>?_,fun i q e=>?_,K.src,K.gens,K.os,fun P m=>(by
  refine eE1 (fun ps=>aA4 fun b g t c=>?_) (S.tabs P m)
  exact⟨ps,b,k _ _ g,t,fun pos cv e=>(c pos cv e).mono tkn⟩)⟩,⟨sub,tkn,fun b x e U U U=>⟨x.slots,k b x e,fun U=>rfl⟩,fun b x e=>⟨x,k b x e⟩,nw⟩⟩
 ·rw[gget] at e
  by_cases z:i=H.n
  ·rw[if_pos z] at e;replace e:=ab e;subst e;subst z
   exact⟨p,ao ι H.n p,r⟩
  ·rw[if_neg z] at e
   refine eE1 (fun q=>aA2 fun a r'=>?_) (S.live i ob e)
   exact⟨q,sub _ _ a,r'.mono sub tkn (fun x e=>k _ _ e) (fun x e=>k _ _ e)⟩
 ·have hn:(H.add o).n=H.n+1:=rfl
  unfold aH at e
  split at e
  ·rename_i z;subst z
   exact⟨by rw[hn];simp +arith only,o,by rw[gget,if_pos rfl]⟩
  ·rename_i z
   refine aA2 (fun a=>eE1 fun b g=>?_) (S.dom i q e)
   exact⟨by rw[hn];exact fS a (by simp +arith only),b,by rw[gget,if_neg z];exact g⟩
 ·unfold aH at e e'
  split at e
  ·rename_i z;replace e:=ab e;subst e
   rw[if_neg (fun z'=>ne (z.trans z'.symm))] at e'
   have:=old e'
   exact⟨this.1.1.symm,this.2.1.symm,this.1.2.symm,this.2.2.symm⟩
  ·split at e'
   ·replace e':=ab e';subst e'
    have:=old e
    exact⟨this.1.1,this.1.2,this.2.1,this.2.2⟩
   ·exact S.apart i j q q' e e' ne
 ·rcases nown b ob with h | h
  ·exact S.fresh b h
  ·have e:s.heap.get? b=none:=by rcases h with rfl | rfl<;>assumption
   refine⟨S.dg e,fun m=>?_⟩
   obtain⟨x,g⟩:=S.lh m
   rw[e] at g;exact zns g
 ·unfold aH at e
  split at e
  ·replace e:=ab e;subst e;exact⟨nsrc.1.symm,nsrc.2.symm⟩
  ·exact S.aF i q e
theorem bX {h h' base:Heap}:∀ {l:List Env},h.FunFrames base l→(∀ L∈frs l,∀ o,h.get? L=some o→∃ o',h'.get? L=some o'∧o'.data=o.data)→h'.FunFrames base l
 | [],_,_=>trivial
 | env :: r,hh,k=>by
  refine aA3 (fun hk e1 hr=>?_) hh
  refine eE2 (fun L o=>aA4 fun hf hn ho hd=>?_) e1
  refine⟨hk,?_,bX hr fun L' m=>k L' ?_⟩
  ·refine eE1 (fun o'=>aA2 fun g d=>?_) (k L (List.mem_filterMap.mpr ⟨env,.head _,hf⟩) o ho)
   exact⟨L,o',hf,hn,g,fun vs q=>hd vs (d▸q)⟩
  ·refine eE1 (fun e=>aA2 fun m1 m2=>?_) (List.mem_filterMap.mp m)
   exact List.mem_filterMap.mpr ⟨e,.tail _ m1,m2⟩
theorem oA (K:OldK b0 h)(ha:b0.get? a=none)(hs:Heap.ExtBut a h h'):OldK b0 h':=by
 have ne:∀ b o,b0.get? b=some o→b≠a:=fun b o e z=>by rw[z,ha] at e;exact zns e
 refine⟨fun b o e=>?_,fun b o e=>by
  obtain⟨o',ho'⟩:=K.there b o e
  exact⟨o',hs b o' (ne b o e) ho'⟩⟩
 refine bC fun G=>?_;rcases K.old b o e with x | ⟨t,hc,vs,more,hv,x⟩| ⟨rfl,hc,⟨o',es,n,ho',r⟩,z⟩
 ·apply G;exact .inl (hs b _ (ne b o e) x)
 ·apply G;exact .inr (.inl ⟨t,hc,vs,more,hv,hs b _ (ne b o e) x⟩)
 ·apply G;exact .inr (.inr ⟨rfl,hc,⟨o',es,n,hs _ _ (ne _ o e) ho',r⟩,fun key=>by rw[OldK.staticOf_congr ((hs _ _ (ne _ o e) ho').trans ho'.symm) key];exact z key⟩)
theorem St.gO (S:St W fs ι H s)(n:W.base.get? b=none)(hs:Heap.ExtBut b s.heap h'):W.K.In h':=fun a o e =>
 hs a o (fun z=>by rw[← z,S.bo a o e] at n;exact zsn n) (S.ground a o e)
theorem St.nB (S:St W fs ι H s)(n:W.base.get? b=none)(hs:Heap.ExtBut b s.heap h'):h'.NoLimit:=by
 refine S.lim.extBut hs fun z=>?_
 refine eE1 (fun mc=>aA2 fun z25q1 q=>?_) (S.bp);revert z25q1;refine eE3 fun o es ep=>aA2 fun g r=>?_
 rw[z,n] at g;exact zns g
theorem St.upd (S:St W fs ι H s)(e:ι k=some p)(hb:b=p.1∨b=p.2)(hs:Heap.SameBut b s.heap h')
  (hx:∃ x,h'.get? b=some x)(r:TK W ι s.heap ι h'→RO W ι h' p o):St W fs ι (H.set k o) ⟨h',s.gens,dr,tk,s.os⟩∧Ext W noX ι s.heap ι h':=by
 have ob:Own W ι b:=.inr ⟨k,p,e,hb⟩
 refine aA2 (fun U=>eE1 fun o0 g0=>?_) (S.dom _ _ e)
 have r0:=S.ro e g0
 have other:∀ {x},x≠b→h'.get? x=s.heap.get? x:=fun {x} n=>hs.2 x n
 have tk':TK W ι s.heap ι h':=fun x y g c U no=>by
  by_cases z:x=b
  ·subst z;exact absurd ob no
  ·exact⟨(other z).trans g,no⟩
 have gget:∀ j,(H.set k o).t.get j=if j=k then some o else H.t.get j:=fun j=>Tri.get_set o H.t k j
 have far:∀ {i q},ι i=some q→i≠k→q.1≠b∧q.2≠b:=fun {i q} e' n=>by
  have:=S.apart i k q p e' e n
  rcases hb with rfl | rfl
  ·exact⟨this.1,this.2.2.1⟩
  ·exact⟨this.2.1,this.2.2.2⟩
 have fb:=S.fresh b ob
 refine⟨⟨S.bo,S.bp,S.mods,S.gO fb.1 hs.extBut,oA S.old fb.1 hs.extBut,S.nB fb.1 hs.extBut,bX S.frames fun x m y g=>⟨y,(other fun z=>fb.2 (z▸m)).trans g,rfl⟩,(fun L m=>by refine eE3 (fun o es n=>aA2 fun g d=>?_) (S.frd L m);exact⟨o,es,n,(other fun z=>fb.2 (z▸m)).trans g,d⟩),fun i ob' e'=>?_,fun i q e'=>?_,S.apart,S.fresh,S.aF,?_,S.gens,S.os,fun P m=>(by
  refine eE1 (fun ps=>aA4 fun z28q1 g t c=>?_) (S.tabs P m);obtain⟨ob',b'⟩:=z28q1
  exact⟨ps,⟨ob',b'⟩,(other fun z=>(by rw[z,fb.1] at b';exact zns b')).trans g,t,fun pos cv e=>(c pos cv e).mono tk'⟩)⟩,⟨Sub.refl _,tk',fun x y g U no U=>?_,fun x y g=>?_,fun x h=>.inl h⟩⟩
 ·rw[gget] at e'
  by_cases z:i=k
  ·rw[if_pos z] at e';replace e':=ab e';subst e';subst z;exact⟨p,e,r tk'⟩
  ·rw[if_neg z] at e'
   refine eE1 (fun q=>aA2 fun a r'=>?_) (S.live i ob' e')
   obtain⟨f1,f2⟩:=far a z
   exact⟨q,a,r'.mono (Sub.refl _) tk' (fun x g=>(other f1).trans g) (fun x g=>(other f2).trans g)⟩
 ·refine aA2 (fun a=>eE1 fun o1 g=>?_) (S.dom i q e')
  refine⟨a,?_⟩
  rw[gget]
  by_cases z:i=k
  ·exact⟨o,if_pos z⟩
  ·exact⟨o1,by rw[if_neg z];exact g⟩
 ·obtain⟨⟨o1,g,r'⟩⟩:=S.src
  have ns:W.src≠b:=by
   have:=S.aF k p e
   rcases hb with rfl | rfl
   ·exact this.1.symm
   ·exact this.2.symm
  exact⟨⟨o1,(other ns).trans g,r'⟩⟩
 ·exact⟨y.slots,(other fun z=>no (by rw[z];exact ob)).trans g,fun U=>rfl⟩
 ·by_cases z:x=b
  ·subst z;exact hx
  ·exact⟨y,(other z).trans g⟩
theorem St.other (S:St W fs ι H s)(nb:W.base.get? b=none)(no:¬ Own W ι b)(hs:Heap.ExtBut b s.heap h')(hx:∀ o,s.heap.get? b=some o→(TC o→¬ TD o)∧∃ o',h'.get? b=some o'∧(b∈frs fs→∃ es n,o'.data = .dict es n))
  : St W fs ι H ⟨h',s.gens,dr,tk,s.os⟩∧Ext W (· = b) ι s.heap ι h':=by
 have tk':TK W ι s.heap ι h':=fun x y g c d no=>by
  by_cases z:x=b
  ·subst z;exact absurd d ((hx _ g).1 c)
  ·exact⟨hs x y z g,no⟩
 have far:∀ {i q},ι i=some q→q.1≠b∧q.2≠b:=fun {i q} e=>⟨fun z=>no (.inr ⟨i,q,e,.inl z.symm⟩),fun z=>no (.inr ⟨i,q,e,.inr z.symm⟩)⟩
 refine⟨⟨S.bo,S.bp,S.mods,S.gO nb hs,oA S.old nb hs,S.nB nb hs,?_,?_,fun i ob' e'=>?_,S.dom,S.apart,S.fresh,S.aF,?_,S.gens,S.os,fun P m=>(by
  refine eE1 (fun ps=>aA4 fun z33q1 g t c=>?_) (S.tabs P m);obtain⟨ob',b'⟩:=z33q1
  exact⟨ps,⟨ob',b'⟩,hs _ _ (fun z=>(by rw[z,nb] at b';exact zns b')) g,t,fun pos cv e=>(c pos cv e).mono tk'⟩)⟩,⟨Sub.refl _,tk',fun x y g U U nx=>⟨y.slots,hs x y nx g,fun U=>rfl⟩,fun x y g=>?_,fun x h=>.inl h⟩⟩
 ·have:∀ {l:List Env},(∀ x∈frs l,x∈frs fs)→s.heap.FunFrames W.base l→h'.FunFrames W.base l:=by
   intro l
   induction l with
   | nil=>intro _ _;trivial
   | cons env r ih =>
    rintro m ⟨hk,⟨L,o,hf,hn,ho,hd⟩,hr⟩
    have mL:L∈frs fs:=m L (List.mem_filterMap.mpr ⟨env,.head _,hf⟩)
    refine⟨hk,?_,ih (fun x hx=>m x ?_) hr⟩
    ·by_cases z:L=b
     ·refine eE1 (fun o'=>aA2 fun g d=>?_) ((hx o (z▸ho)).2)
      refine eE2 (fun es n d=>?_) (d (z▸mL))
      exact⟨L,o',hf,hn,z▸g,fun vs q=>by rw[d] at q;injection q⟩
     ·exact⟨L,o,hf,hn,hs L o z ho,hd⟩
    ·refine eE1 (fun e=>aA2 fun m1 m2=>?_) (List.mem_filterMap.mp hx)
     exact List.mem_filterMap.mpr ⟨e,.tail _ m1,m2⟩
  exact this (fun x h=>h) S.frames
 ·intro L m
  refine eE3 (fun o es n=>aA2 fun g d=>?_) (S.frd L m)
  by_cases z:L=b
  ·refine bC fun G=>?_;subst z
   refine eE1 (fun o'=>aA2 fun g' d'=>?_) ((hx o g).2)
   refine eE2 (fun es' n' d'=>?_) (d' m)
   apply G;exact⟨o',es',n',g',d'⟩
  ·exact⟨o,es,n,hs L o z g,d⟩
 ·refine bC fun G=>?_;refine eE1 (fun q=>aA2 fun a r'=>?_) (S.live i ob' e')
  obtain⟨f1,f2⟩:=far a
  apply G;exact⟨q,a,r'.mono (Sub.refl _) tk' (fun x g=>hs _ _ f1 g) (fun x g=>hs _ _ f2 g)⟩
 ·refine bC fun G=>?_;obtain⟨⟨o1,g,r'⟩⟩:=S.src
  apply G;exact⟨⟨o1,hs _ _ (fun z=>no (.inl z.symm)) g,r'⟩⟩
 ·by_cases z:x=b
  ·refine eE1 (fun o'=>aA2 fun g' U=>?_) ((hx y (z▸g)).2)
   exact⟨o',z▸g'⟩
  ·exact⟨y,hs x y z g⟩
theorem St.slots (S:St W fs ι H s)(x:Heap.SlotsOnly (frs fs) s.heap h'):St W fs ι H ⟨h',s.gens,dr,tk,s.os⟩∧Ext W noX ι s.heap ι h':=by
 have keep:∀ b,b∉frs fs→h'.get? b=s.heap.get? b:=x.2.1
 have nb:∀ b o,W.base.get? b=some o→b∉frs fs:=fun b o e m=>by
  have:=(S.frames.mem m).1
  rw[e] at this;exact zsn this
 have own:∀ b,Own W ι b→h'.get? b=s.heap.get? b:=fun b ob=>keep b (S.fresh b ob).2
 have tk':TK W ι s.heap ι h':=fun b o g c d no=>by
  refine⟨?_,no⟩
  by_cases z:b∈frs fs
  ·refine eE3 (fun o2 es n=>aA2 fun g2 d2=>?_) (S.frd b z)
   rw[g] at g2;replace g2:=ab g2;subst g2
   exact(d.dE d2).elim
  ·exact(keep b z).trans g
 have old:OldK W.base h':=by
  refine⟨fun b o e=>?_,fun b o e=>by
   obtain⟨o',ho'⟩:=S.old.there b o e
   exact⟨o',(keep b (nb b o e)).trans ho'⟩⟩
  rcases S.old.old b o e with x | ⟨t,hc,vs,more,hv,x⟩| ⟨rfl,hc,⟨o',es,n,ho',r⟩,z⟩
  ·exact .inl ((keep b (nb b o e)).trans x)
  ·exact .inr (.inl ⟨t,hc,vs,more,hv,(keep b (nb b o e)).trans x⟩)
  ·have:=keep _ (nb _ o e)
   exact .inr (.inr ⟨rfl,hc,⟨o',es,n,this.trans ho',r⟩,fun key=>by rw[OldK.staticOf_congr this key];exact z key⟩)
 have lim:h'.NoLimit:=by
  refine eE1 (fun mc=>aA2 fun z46q1 q=>?_) (S.bp);revert z46q1;refine eE3 fun o es ep=>aA2 fun g r=>?_
  obtain⟨o2,g2⟩:=S.old.there _ o g
  refine eE1 (fun mc2=>aA2 fun z48q1 q3=>?_) (S.lim);revert z48q1;refine eE3 fun o3 es3 ep3=>aA2 fun g3 r3=>?_
  exact⟨mc2,⟨o3,es3,ep3,(keep _ (nb _ o g)).trans g3,r3⟩,q3⟩
 refine⟨⟨S.bo,S.bp,S.mods,fun a o e=>(keep a (nb a o (S.bo a o e))).trans (S.ground a o e),old,lim,S.frames.of_slotsOnly x,fun L m=>?_,fun i ob e=>?_,S.dom,S.apart,S.fresh,S.aF,?_,S.gens,S.os,fun P m=>(by
  refine eE1 (fun ps=>aA4 fun z49q1 g t c=>?_) (S.tabs P m);obtain⟨ob',b'⟩:=z49q1
  exact⟨ps,⟨ob',b'⟩,(keep _ (nb _ _ b')).trans g,t,fun pos cv e=>(c pos cv e).mono tk'⟩)⟩,
  ⟨Sub.refl _,tk',fun b o g U U U=>(by
   by_cases z:b∈frs fs
   ·refine eE3 (fun o2 es n=>aA2 fun g2 d2=>?_) (S.frd b z)
    rw[g] at g2;replace g2:=ab g2;subst g2
    obtain⟨sl,g'⟩:=x.2.2 b o g
    exact⟨sl,g',fun q=>absurd d2 (q es n)⟩
   ·exact⟨o.slots,(keep b z).trans g,fun U=>rfl⟩),fun b o g=>?_,fun b h=>.inl h⟩⟩
 ·refine bC fun G=>?_;refine eE3 (fun o es n=>aA2 fun g d=>?_) (S.frd L m)
  obtain⟨sl,g'⟩:=x.2.2 L o g
  apply G;exact⟨_,es,n,g',d⟩
 ·refine eE1 (fun p=>aA2 fun a r=>?_) (S.live i ob e)
  exact⟨p,a,r.mono (Sub.refl _) tk' (fun y g=>(own _ (.inr ⟨i,p,a,.inl rfl⟩)).trans g) (fun y g=>(own _ (.inr ⟨i,p,a,.inr rfl⟩)).trans g)⟩
 ·refine bC fun G=>?_;obtain⟨⟨o1,g,r'⟩⟩:=S.src
  apply G;exact⟨⟨o1,(own _ (.inl rfl)).trans g,r'⟩⟩
 ·obtain⟨sl,g'⟩:=x.2.2 b o g
  exact⟨_,g'⟩
end
structure Arc (A:Around)(fs:List Env)(d:Nat):Prop where
 handled:A.handled=none
 frames:A.frames=some fs
 depth:A.depth+2 * d≤991
 units:A.units+8 * d≤9800
structure Ar (A:Around)(fs:List Env)(d:Nat):Prop where
 handled:A.handled=none
 frames:A.frames=some fs
 depth:A.depth+2 * d≤990
 units:A.units+8 * d+4≤9800
theorem Ar.call (a:Ar A fs d):Arc A fs d:=⟨a.handled,a.frames,Nat.le_succ_of_le a.depth,Nat.le_trans (Nat.le_add_right _ 4) a.units⟩
structure bR (W:Wd)(sc:Sc)(env:Env)(fs:List Env):Prop where
 names:env.scope.names=sc.names
 kind:env.scope.kind = .function
 globals:env.globals=mainGlobals
 builtins:env.builtins=builtinsNs
 frame:∃ L e0 r,env.frame=some L∧fs=e0 :: r∧e0.frame=some L
 code:∀ q,sc.code=some q→env.code = .ref q.1∧env.qual=q.2
noncomputable def Fm.s:Fm→List Vl
 | .mk s _=>s
noncomputable def Fm.c:Fm→List Nat
 | .mk _ c=>c
structure aS (W:Wd)(sc:Sc)(env:Env)(ι:Io)(h:Heap)(f:Fm):Prop where
 no:¬ Own W ι env.locals
 nb:W.base.get? env.locals=none
 ns:∃ m,h.Ns env.locals m∧∀ (i:Nat)(n:Str)(x:Vl),sc.slots[i]? = some n→f.s[i]? = some x→x = .unset∨∃ v,m n=some v∧RV W ι h v x
 cells:∀ (i:Nat)(n:Str),sc.cells[i]? = some n→(sc.names.lookup n=some .cell∨sc.names.lookup n=some .free)→∃ j a d,f.c[i]? = some j∧ι j=some (a,d)∧env.cells.lookup n=some a
def oU (h:Heap)(e:Addr):Prop:=∃ oe vs,h.get? e=some oe∧oe.data = .fields vs∧vs[1]? = some .none
structure Traced (h:Heap)(e T:Addr)(fl:Value):Prop where
 at_:∃ oe vs,h.get? e=some oe∧oe.data = .fields vs∧vs[1]? = some (.ref T)
 head:∃ oT ts,h.get? T=some oT∧oT.cls = .type "traceback"∧oT.data = .fields ts∧ts[3]? = some fl
 ne:T≠e
def iY (W:Wd)(h₀ : Heap)(ι:Io)(h:Heap)(e:Addr)(P:Value→Prop):Prop:=oU h e∨∃ T fl,Traced h e T fl∧P fl∧h₀.get? T=none∧W.base.get? T=none∧¬ Own W ι T
def GW:Value→Prop:=fun v=>v = .none
section
variable (W:Wd)(fs:List Env)(X:Addr→Prop)(ι:Io)(s:Shared)
inductive PX (k:Vl→Hp→Bool)(v:Value)(s':Shared):Prop where
 | mk (ι':Io)(H':Hp)(x:Vl)(S:St W fs ι' H' s')(E:Ext W X ι s.heap ι' s'.heap)(r:RV W ι' s'.heap v x)(t:k x H'=true)
inductive PL (k:List Vl→Hp→Bool)(v:List Value)(s':Shared):Prop where
 | mk (ι':Io)(H':Hp)(x:List Vl)(S:St W fs ι' H' s')(E:Ext W X ι s.heap ι' s'.heap)(r:RVs W ι' s'.heap v x)(t:k x H'=true)
inductive PE (e:Nat→Hp→Bool)(v:Value)(s':Shared):Prop where
 | mk (ι':Io)(H':Hp)(i:Nat)(p:Addr × Addr)(ev:v = .ref p.1)(ei:ι' i=some p)(S:St W fs ι' H' s')(E:Ext W X ι s.heap ι' s'.heap)(fl:iY W s.heap ι' s'.heap p.1 GW)(t:e i H'=true)
end
def RC (P E:Value→Shared→Prop):Result→Shared→Prop:=fun r s'=>match r with
 | .ok (.ret v)=>P v s'
 | .ok _=>False
 | .error e=>E e s'
def lT (W:Wd)(r:Rt)(d:Nat):Prop:=∀ (A:Around)(fs:List Env)(ι:Io)(H:Hp)(s:Shared)(v:Value)(x:Vl)(vs:List Value)(xs:List Vl)(k:KV)(e:KE),
 Arc A fs d→St W fs ι H s→RV W ι s.heap v x→RVs W ι s.heap vs xs→r x xs H k e=true→codeAny (model W.prog W.w) A (.call v ⟨vs,[]⟩) (RC (PX W fs noX ι s k) (PE W fs noX ι s e)) s
theorem lT.call (o:lT W r d)
 (a:Arc A fs d)(S:St W fs ι H s)(rv:RV W ι s.heap v x)(rvs:RVs W ι s.heap vs xs)(t:r x xs H k e=true):wpAny (model W.prog W.w) A (call v vs) (PX W fs noX ι s k) (PE W fs noX ι s e) s:=wpAny_call (o A fs ι H s v x vs xs k e a S rv rvs t)
structure Here (W:Wd)(sc:Sc)(r:Rt)(d:Nat)(A:Around)(fs:List Env)(env:Env)(f:Fm)(ι:Io)(H:Hp)(s:Shared):Prop where
 rt:lT W r d
 ar:Ar A fs d
 eo:bR W sc env fs
 fr:aS W sc env ι s.heap f
 st:St W fs ι H s
def SX (W:Wd)(sc:Sc)(x:CX)(ex:Expr):Prop:=∀ (r:Rt)(d:Nat)(A:Around)(fs:List Env)(env:Env)(f:Fm)(ι:Io)(H:Hp)(s:Shared)(k:KV)(e:KE),
 Here W sc r d A fs env f ι H s→x r f H k e=true→wpAny (model W.prog W.w) A (eval ex env) (PX W fs noX ι s k) (PE W fs noX ι s e) s
def SL (W:Wd)(sc:Sc)(x:CL)(es:List Expr):Prop:=∀ (pos:Pos)(r:Rt)(d:Nat)(A:Around)(fs:List Env)(env:Env)(f:Fm)(ι:Io)(H:Hp)(s:Shared)(k:KL)(e:KE),
 Here W sc r d A fs env f ι H s→x r f H k e=true→wpAny (model W.prog W.w) A (spliced (backTo pos (starEach es env))) (PL W fs noX ι s k) (PE W fs noX ι s e) s
section
variable {W:Wd}{sc:Sc}{r:Rt}{d:Nat}{A:Around}{fs:List Env}{env:Env}{f:Fm}{ι ι':Io}{H H':Hp}{s s':Shared}{X:Addr→Prop}
theorem aS.ext (F:aS W sc env ι s.heap f)(E:Ext W X ι s.heap ι' s'.heap)(hx:¬ X env.locals):aS W sc env ι' s'.heap f:=by
 refine bC fun G=>?_;refine eE1 (fun m=>aA2 fun z1q1 k=>?_) (F.ns);revert z1q1;refine eE3 fun o es ep=>aA4 fun g dd r1 r2=>?_
 refine eE1 (fun sl=>aA2 fun g' U=>?_) (E.keep _ _ g (.inr F.nb) F.no hx)
 apply G;refine⟨fun q=>?_,F.nb,?_,fun i n e1 e2=>?_⟩
 ·rcases E.new _ q with q | q
  ·exact F.no q
  ·rw[g] at q;exact zsn q
 ·exact⟨m,⟨_,es,ep,g',dd,r1,r2⟩,fun i n x e1 e2=>(k i n x e1 e2).imp id fun⟨v,a,b⟩=>⟨v,a,b.ext E⟩⟩
 ·refine eE3 (fun j a d=>aA3 fun e3 e4 e5=>?_) (F.cells i n e1 e2)
  exact⟨j,a,d,e3,E.sub _ _ e4,e5⟩
theorem Here.next (h:Here W sc r d A fs env f ι H s)(S:St W fs ι' H' s')(E:Ext W X ι s.heap ι' s'.heap)(hx:¬ X env.locals:=by exact id):Here W sc r d A fs env f ι' H' s' :=
 ⟨h.rt,h.ar,h.eo,h.fr.ext E hx,S⟩
theorem PX.from (E:Ext W X ι s.heap ι' s1.heap)(h:PX W fs X ι' s1 k v s2):PX W fs X ι s k v s2:=by
 obtain⟨ι2,H2,x,a,b,c,d⟩:=h
 exact⟨ι2,H2,x,a,E.trans b,c,d⟩
theorem iY.from (E:Ext W X ι s.heap ι' s'.heap)(t:iY W s'.heap ι2 h b P):iY W s.heap ι2 h b P:=t.imp id fun⟨T,fl,a,p,n,o⟩=>⟨T,fl,a,p,E.none n,o⟩
theorem iY.imp (f:∀ v,P v→Q v)(t:iY W h₀ ι2 h b P):iY W h₀ ι2 h b Q:=Or.imp id (fun⟨T,fl,a,p,n⟩=>⟨T,fl,a,f _ p,n⟩) t
theorem PE.from (E:Ext W X ι s.heap ι' s1.heap)(h:PE W fs X ι' s1 e v s2):PE W fs X ι s e v s2:=by
 obtain⟨ι2,H2,i,p,a,b,c,d,t,g⟩:=h
 exact⟨ι2,H2,i,p,a,b,c,E.trans d,t.from E,g⟩
theorem Here.px (h:Here W sc r d A fs env f ι H s)(rv:RV W ι s.heap v x)(e:k x H=true):PX W fs X ι s k v s:=⟨ι,H,x,h.st,.refl,rv,e⟩
end
section
variable {v:Vl}{k:Bool→Bool}{h:Hp}
def l1 (g:Vl→Bool)(vs:List Vl):Bool:=@List.rec Vl (fun U=>Bool) false (fun a r U=>@List.rec Vl (fun U=>Bool) (g a) (fun U U U=>false) r) vs
def l2 (g:Vl→Vl→Bool)(vs:List Vl):Bool:=@List.rec Vl (fun U=>Bool) false (fun a r U=>l1 (g a) r) vs
theorem jx (t:l1 g vs=true):∃ v,vs=[v]∧g v=true:=by
 cases vs with
 | nil=>exact nf t
 | cons a r=>cases r with
  | nil=>exact⟨a,rfl,t⟩
  | cons _ _=>exact nf t
theorem jy (t:l2 g vs=true):∃ v w,vs=[v,w]∧g v w=true:=by
 cases vs with
 | nil=>exact nf t
 | cons a r=>refine eE1 (fun w=>aA2 fun z7q1 t=>?_) (jx (g:=g a) t);obtain rfl:=z7q1;exact⟨a,w,rfl,t⟩
theorem RVs.one {W:Wd}{ι:Io}{h:Heap}{vs:List Value}{x:Vl}(r:RVs W ι h vs [x]):∃ v,vs=[v]∧RV W ι h v x:=by
 refine eE2 (fun v r'=>aA3 fun z8q2 a b=>?_) (r.inv);obtain rfl:=z8q2
 exact⟨v,by rw[show r'=[] from b.inv],a⟩
theorem RVs.two {W:Wd}{ι:Io}{h:Heap}{vs:List Value}{x y:Vl}(r:RVs W ι h vs [x,y]):∃ v w,vs=[v,w]∧RV W ι h v x∧RV W ι h w y:=by
 refine eE2 (fun v r'=>aA3 fun z9q2 a b=>?_) (r.inv);obtain rfl:=z9q2
 refine eE1 (fun w=>aA2 fun z10q1 c=>?_) (b.one);obtain rfl:=z10q1
 exact⟨v,w,rfl,a,c⟩
theorem kR (e:bool? v k=true):∃ b,v = .bool b∧k b=true:=by
 cases v<;>first | exact⟨_,rfl,e⟩| exact ft e
set_option tactic.hygienic true in
theorem hH (e:ifV v x y=true):(v = .bool true∧x=true)∨(v = .bool false∧y=true):=by
 cases v<;>first | exact nf e | exact ns e | skip
 rename_i b
 cases b
 ·exact .inr ⟨rfl,e⟩
 ·exact .inl ⟨rfl,e⟩
set_option tactic.hygienic true in
theorem bG {v:Vl}{k:Nat→Bool}(e:nat? v k=true):∃ n:Nat,v = .int (.ofNat n)∧k n=true:=by
 cases v<;>first | exact nf e | exact ns e | skip
 rename_i i
 cases i
 ·exact⟨_,rfl,e⟩
 ·exact ft e
theorem aG {v:Vl}{k:Nat→Bool}(e:ed v k=true):∃ b,v = .str b∧k b=true:=by
 cases v<;>first | exact⟨_,rfl,e⟩| exact ft e
theorem br {v:Vl}{k:Nat→Bool}(e:gq v k=true):∃ b,v = .ref b∧k b=true:=by
 cases v<;>first | exact⟨_,rfl,e⟩| exact ft e
theorem mM {v:Vl}{k:Vl→Bool}(e:B1 v k=true):v≠.unset∧k v=true:=by
 cases v<;>first | exact⟨(fun z=>by cases z),e⟩| exact ft e
theorem cC {α : Type}{k : α→Bool}:∀ {l:List α}{i:Nat},jZ l i k=true→∃ a,l[i]? = some a∧k a=true
 | [],_,e=>by exact ft e
 | a :: _,0,e=>⟨a,rfl,e⟩
 | _ :: r,i+1,e=>by
  refine eE1 (fun a=>aA2 fun g e=>?_) (cC (l:=r) (i:=i) e)
  exact⟨a,by simpa using g,e⟩
theorem dZ {f:Fm}{i:Nat}{k:Vl→Bool}(e:nq f i k=true):∃ x,f.s[i]? = some x∧x≠.unset∧k x=true:=by
 cases f with
 | mk s c =>
  refine eE1 (fun x=>aA2 fun g e=>?_) (cC (l:=s) (k:=fun v=>B1 v k) e)
  exact⟨x,g,mM e⟩
theorem fG {f:Fm}{i:Nat}{k:Nat→Bool}(e:FY f i k=true):∃ x,f.c[i]? = some x∧k x=true:=by
 cases f with
 | mk s c=>exact cC (l:=c) e
end
section
variable {W:Wd}{sc:Sc}
theorem uh {k pos}:SX W sc (xk .none) (.Constant .none k pos):=fun U U U U U U U U U U U h t=>wpAny_Constant_none (h.px .none t)
theorem oh {b k pos}:SX W sc (xk (.bool b)) (.Constant (.bool b) k pos):=fun U U U U U U U U U U U h t=>wpAny_Constant_bool (h.px (.bool b) t)
theorem gF {k pos}:SX W sc (xk (.int i)) (.Constant (.int i) k pos):=fun U U U U U U ι H s U U h t =>
 wpAny_Constant_int ⟨ι,H,_,h.st.toks _,.of_keeps fun U U e=>e,.int i _,t⟩
theorem xf {c k pos}(hx:ag x c):SX W sc (xk (.str c)) (.Constant (.str x) k pos):=fun U U U U U U ι H s U U h t =>
 PySem.wpAny_Constant_str ⟨ι,H,_,h.st.toks _,.of_keeps fun U U e=>e,.str _ hx,t⟩
theorem rA {ex}:SX W sc jo ex:=fun U U U U U U U U U U U U t=>nomatch t
theorem Here.kindOf {r d A fs env f ι H s}(h:Here W sc r d A fs env f ι H s)(n:Str):env.kindOf n=sc.names.lookup n:=by unfold Env.kindOf;rw[h.eo.names]
theorem Dt {pos}(hs:sc.slots[i]? = some n)(hn:sc.names.lookup n=some .local)(hd:(n == ("__debug__" : Str))=false):SX W sc (Iw i) (.Name n pos):=fun U U U U env f ι H s k e h t=>by
 refine eE1 (fun x=>aA3 fun g ne t=>?_) (dZ t)
 refine eE1 (fun m=>aA2 fun hm r=>?_) (h.fr.ns)
 refine oO (fun z=>?_) (eE1 fun v=>aA2 fun hv rv=>?_) (r i n x hs g)
 ·exact absurd z ne
 ·exact wpAny_Name (wpAny_loadName_local h.eo.kind ((h.kindOf n).trans hn) hm hv (h.px rv t)) hd
theorem FK {pos}(hs:sc.cells[i]? = some n)(hn:sc.names.lookup n=some .cell∨sc.names.lookup n=some .free)(hd:(n == ("__debug__" : Str))=false)(hc:(n == ("__classdict__" : Str))=false):SX W sc (HR i) (.Name n pos):=fun U U U U env f ι H s k e h t=>by
 refine eE1 (fun j=>aA2 fun g t=>?_) (fG t)
 refine eE1 (fun o=>aA2 fun go t=>?_) (af t)
 cases o with
 | cell x =>
  obtain⟨ne,t⟩:=mM (k:=fun v=>k v H) t
  refine eE3 (fun j' a d=>aA3 fun e1 e2 e3=>?_) (h.fr.cells i n hs hn)
  rw[g] at e1;replace e1:=ab e1;subst e1
  obtain⟨eq,o,ov,g1,c1,d1,r1⟩:=h.st.ro e2 go
  revert r1;refine oO (fun r1=>?_) (eE1 fun v=>aA2 fun r1 rv=>?_)
  ·exact absurd r1 ne
  ·subst r1
   have ic:s.heap.IsCell a (some v):=⟨o,g1,d1⟩
   rcases hn with hn | hn
   ·exact wpAny_Name (wpAny_loadName_cell h.eo.kind ((h.kindOf n).trans hn) e3 ic (h.px rv t)) hd
   ·exact wpAny_Name (wpAny_loadName_free h.eo.kind ((h.kindOf n).trans hn) e3 ic (h.px rv t) hc) hd
 | _=>(first | exact nf t | exact ns t | cases t)
inductive PB (W:Wd)(fs:List Env)(ι:Io)(s:Shared)(p q:Hp→Bool)(b:Bool)(s':Shared):Prop where
 | mk (ι':Io)(H':Hp)(S:St W fs ι' H' s')(E:Ext W noX ι s.heap ι' s'.heap)(t:(if b then p H' else q H')=true)
theorem PB.from {fs ι ι' p q b}(E:Ext W noX ι s.heap ι' s1.heap)(h:PB W fs ι' s1 p q b s2):PB W fs ι s p q b s2:=by
 obtain⟨ι2,H2,a,b,c⟩:=h
 exact⟨ι2,H2,a,E.trans b,c⟩
def ST (W:Wd)(sc:Sc)(x:CX)(ex:Expr):Prop:=∀ (r:Rt)(d:Nat)(A:Around)(fs:List Env)(env:Env)(f:Fm)(ι:Io)(H:Hp)(s:Shared)(p q:Hp→Bool)(e:KE),
 Here W sc r d A fs env f ι H s→x r f H (fun v h=>ifV v (p h) (q h)) e=true→wpAny (model W.prog W.w) A (isTrue ex env (eval ex env)) (PB W fs ι s p q) (PE W fs noX ι s e) s
theorem cK (hx:SX W sc x ex)(he:∀ env whole,isTrue ex env whole=(do let v ← whole;standAt ex.pos;holding [v] (truthy v)):=by intros;rfl):ST W sc x ex:=fun r d A fs env f ι H s p q e h t=>by
 refine wpAny_isTrue_value (wpAny_mono (hx r d A fs env f ι H s _ e h t) (fun v s1 P=>?_) fun U U z=>z) (he _ _)
 obtain⟨ι',H',y,S,E,rv,t⟩:=P
 refine oO (aA2 fun z t=>?_) (aA2 fun z t=>?_) (hH t)<;>(rw[z] at rv;rw[show v=_ from rv.inv];exact wpAny_truthy_bool ⟨ι',H',S,E,t⟩)
set_option tactic.hygienic true in
theorem sA {pos}(hx:ST W sc x ex):ST W sc (xP x) (.UnaryOp .Not ex pos):=fun r d A fs env f ι H s p q e h t=>by
 have e1:(fun v h=>bool? v fun t=>ifV (.bool (Bool.not t)) (p h) (q h))=(fun v h=>ifV v (q h) (p h)):=by
  funext v h;cases v<;>try rfl
  rename_i b;cases b<;>rfl
 have t:x r f H (fun v h=>bool? v fun t=>ifV (.bool (Bool.not t)) (p h) (q h)) e=true:=t
 rw[e1] at t
 refine wpAny_isTrue_Not (wpAny_mono (hx r d A fs env f ι H s q p e h t) (fun b s1 P=>?_) fun U U z=>z)
 obtain⟨ι',H',S,E,t⟩:=P
 exact⟨ι',H',S,E,by cases b<;>exact t⟩
theorem Eb {pos}(hx:SX W sc x ex):SX W sc (xP x) (.UnaryOp .Not ex pos):=fun r d A fs env f ι H s k e h t=>by
 refine wpAny_UnaryOp (wpAny_mono (hx r d A fs env f ι H s _ e h t) (fun v s1 P=>?_) fun U U z=>z)
 obtain⟨ι',H',y,S,E,rv,t⟩:=P
 refine eE1 (fun b=>aA2 fun z12q1 t=>?_) (kR t);rw[z12q1] at rv;rw[show v=_ from rv.inv]
 unfold unaryOp
 exact wpAny_holding (wpAny_ite_true rfl (wpAny_bind (wpAny_truthy_bool (wpAny_pure ⟨ι',H',_,S,E,.bool _,t⟩))))
def SB (W:Wd)(sc:Sc)(op:BoolOp)(x:CX)(es:List Expr):Prop:=∀ (pos:Pos)(r:Rt)(d:Nat)(A:Around)(fs:List Env)(env:Env)(f:Fm)(ι:Io)(H:Hp)(s:Shared)(k:KV)(e:KE),
 Here W sc r d A fs env f ι H s→x r f H k e=true→wpAny (model W.prog W.w) A (boolOp pos op (evalEach es env)) (PX W fs noX ι s k) (PE W fs noX ι s e) s
theorem xI {op x ex}(hx:SX W sc x ex):SB W sc op x [ex]:=fun pos r d A fs env f ι H s k e h t=>hx r d A fs env f ι H s k e h t
theorem FO {a b e1 e2 es}(ha:SX W sc a e1)(hb:SB W sc .And b (e2 :: es)):SB W sc .And (Dx a b) (e1 :: e2 :: es):=fun pos r d A fs env f ι H s k e h t=>by
 show wpAny _ A (do let v ← eval e1 env;standAt pos;let t ← holding [v] (truthy v);match BoolOp.And,t with | .And,false | .Or,true=>pure v | _,_=>boolOp pos .And (evalEach (e2 :: es) env)) _ _ s
 refine wpAny_bind (wpAny_mono (ha r d A fs env f ι H s _ e h t) (fun v s1 P=>?_) fun U U z=>z)
 obtain⟨ι',H',y,S,E,rv,t⟩:=P
 refine wpAny_bind (wpAny_standAt (wpAny_bind (wpAny_holding ?_)))
 refine oO (aA2 fun z t=>?_) (aA2 fun z t=>?_) (hH t)<;>(rw[z] at rv;rw[show v=_ from rv.inv])
 ·exact wpAny_truthy_bool (wpAny_mono (hb pos r d A fs env f ι' H' s1 k e (h.next S E) t) (fun U U p=>p.from E) fun U U p=>p.from E)
 ·exact wpAny_truthy_bool (wpAny_pure ⟨ι',H',_,S,E,.bool _,t⟩)
theorem Ih {a b e1 e2 es}(ha:SX W sc a e1)(hb:SB W sc .Or b (e2 :: es)):SB W sc .Or (xor a b) (e1 :: e2 :: es):=fun pos r d A fs env f ι H s k e h t=>by
 show wpAny _ A (do let v ← eval e1 env;standAt pos;let t ← holding [v] (truthy v);match BoolOp.Or,t with | .And,false | .Or,true=>pure v | _,_=>boolOp pos .Or (evalEach (e2 :: es) env)) _ _ s
 refine wpAny_bind (wpAny_mono (ha r d A fs env f ι H s _ e h t) (fun v s1 P=>?_) fun U U z=>z)
 obtain⟨ι',H',y,S,E,rv,t⟩:=P
 refine wpAny_bind (wpAny_standAt (wpAny_bind (wpAny_holding ?_)))
 refine oO (aA2 fun z t=>?_) (aA2 fun z t=>?_) (hH t)<;>(rw[z] at rv;rw[show v=_ from rv.inv])
 ·exact wpAny_truthy_bool (wpAny_pure ⟨ι',H',_,S,E,.bool _,t⟩)
 ·exact wpAny_truthy_bool (wpAny_mono (hb pos r d A fs env f ι' H' s1 k e (h.next S E) t) (fun U U p=>p.from E) fun U U p=>p.from E)
theorem FC {op x es pos}(hx:SB W sc op x es):SX W sc x (.BoolOp op es pos):=fun r d A fs env f ι H s k e h t=>by
 show wpAny _ A (boolOp pos op (evalEach es env)) _ _ s
 exact hx pos r d A fs env f ι H s k e h t
def SBT (W:Wd)(sc:Sc)(op:BoolOp)(x:CX)(es:List Expr):Prop:=∀ (r:Rt)(d:Nat)(A:Around)(fs:List Env)(env:Env)(f:Fm)(ι:Io)(H:Hp)(s:Shared)(p q:Hp→Bool)(e:KE),
 Here W sc r d A fs env f ι H s→x r f H (fun v h=>ifV v (p h) (q h)) e=true→wpAny (model W.prog W.w) A (allTrue op es env) (PB W fs ι s p q) (PE W fs noX ι s e) s
theorem qA {x ex}(hx:ST W sc x ex):SBT W sc .And x [ex]:=fun r d A fs env f ι H s p q e h t=>by
 refine wpAny_allTrue_And_cons (wpAny_mono (hx r d A fs env f ι H s p q e h t) (fun b s1 P=>?_) fun U U z=>z)
 cases b
 ·exact P
 ·exact wpAny_allTrue_And_nil P
theorem lM {x ex}(hx:ST W sc x ex):SBT W sc .Or x [ex]:=fun r d A fs env f ι H s p q e h t=>by
 refine wpAny_allTrue_Or_cons (wpAny_mono (hx r d A fs env f ι H s p q e h t) (fun b s1 P=>?_) fun U U z=>z)
 cases b
 ·exact wpAny_allTrue_Or_nil P
 ·exact P
theorem Bw {a b e1 es}(ha:ST W sc a e1)(hb:SBT W sc .And b es):SBT W sc .And (Dx a b) (e1 :: es):=fun r d A fs env f ι H s p q e h t=>by
 refine wpAny_allTrue_And_cons (wpAny_mono (ha r d A fs env f ι H s (fun h=>b r f h (fun v h=>ifV v (p h) (q h)) e) q e h t) (fun b s1 P=>?_) fun U U z=>z)
 obtain⟨ι',H',S,E,t⟩:=P
 cases b
 ·exact⟨ι',H',S,E,t⟩
 ·exact wpAny_mono (hb r d A fs env f ι' H' s1 p q e (h.next S E) t) (fun U U p=>p.from E) fun U U p=>p.from E
theorem vQ {a b e1 es}(ha:ST W sc a e1)(hb:SBT W sc .Or b es):SBT W sc .Or (xor a b) (e1 :: es):=fun r d A fs env f ι H s p q e h t=>by
 refine wpAny_allTrue_Or_cons (wpAny_mono (ha r d A fs env f ι H s p (fun h=>b r f h (fun v h=>ifV v (p h) (q h)) e) e h t) (fun b s1 P=>?_) fun U U z=>z)
 obtain⟨ι',H',S,E,t⟩:=P
 cases b
 ·exact wpAny_mono (hb r d A fs env f ι' H' s1 p q e (h.next S E) t) (fun U U p=>p.from E) fun U U p=>p.from E
 ·exact⟨ι',H',S,E,t⟩
theorem wD {op x es pos}(hx:SBT W sc op x es):ST W sc x (.BoolOp op es pos):=fun r d A fs env f ι H s p q e h t=>wpAny_isTrue_BoolOp (hx r d A fs env f ι H s p q e h t)
theorem EK {c a b e1 e2 e3 pos}(hc:ST W sc c e1)(ha:SX W sc a e2)(hb:SX W sc b e3):SX W sc (Iy c a b) (.IfExp e1 e2 e3 pos):=fun r d A fs env f ι H s k e h t=>by
 refine wpAny_IfExp (wpAny_mono (hc r d A fs env f ι H s (fun h=>a r f h k e) (fun h=>b r f h k e) e h t) (fun b s1 P=>?_) fun U U z=>z)
 obtain⟨ι',H',S,E,t⟩:=P
 cases b
 ·exact wpAny_mono (hb r d A fs env f ι' H' s1 k e (h.next S E) t) (fun U U p=>p.from E) fun U U p=>p.from E
 ·exact wpAny_mono (ha r d A fs env f ι' H' s1 k e (h.next S E) t) (fun U U p=>p.from E) fun U U p=>p.from E
theorem aj (h:Heap)(o:Obj):∀ b x,h.get? b=some x→(h.push o).get? b=some x:=fun b x e=>Heap.get?_push_of_some o e
theorem eC:SL W sc eE []:=fun pos r d A fs env f ι H s k e h t=>spliced_none ⟨ι,H,_,h.st,.refl,.nil,t⟩
theorem cm {x l ex es}(hx:SX W sc x ex)(hl:SL W sc l es)(he:∀ env,starEach (ex :: es) env=(false,eval ex env) :: starEach es env:=by intros;rfl):SL W sc (bz x l) (ex :: es):=fun pos r d A fs env f ι H s k e h t=>by
 refine spliced_more (wpAny_mono (hx r d A fs env f ι H s _ e h t) (fun v s1 P=>?_) fun U U z=>z) (he env)
 obtain⟨ι',H',y,S,E,rv,t⟩:=P
 refine wpAny_mono (hl pos r d A fs env f ι' H' s1 _ e (h.next S E) t) (fun vs s2 P=>?_) fun U U p=>p.from E
 obtain⟨ι2,H2,ys,S2,E2,rvs,t⟩:=P
 exact⟨ι2,H2,_,S2,E.trans E2,.cons (rv.ext E2) rvs,t⟩
theorem eJ (l:List α):eZ l=l.length:=by
 have:∀ (l:List α)(n:Nat),(@List.rec α (fun U=>Nat→Nat) (fun n=>n) (fun U U ih n=>ih (Nat.succ n)) l n)=l.length+n:=by
  intro l;induction l with
  | nil=>intro n;exact(Nat.zero_add n).symm
  | cons a r ih=>intro n;refine(ih (n+1)).trans ?_;simp only[List.length_cons];simp +arith only
 exact this l 0
theorem aA (e:small l k=true):l.length≤1000∧k=true:=by
 have e:(@Bool.rec (fun U=>Bool) false k (Nat.ble (eZ l) 1000))=true:=e
 rw[eJ] at e
 cases q:Nat.ble l.length 1000 with
 | false=>rw[q] at e;(first | exact nf e | exact ns e | cases e)
 | true=>rw[q] at e;exact⟨bS q,e⟩
theorem St.fv (S:St W fs ι H s)(n:s.heap.get? a=none):¬ Own W ι a:=fun z=>by
 obtain⟨x,g⟩:=S.iH z
 rw[n] at g;exact zns g
theorem nP (S:St W fs ι H s)(rv:RVs W ι s.heap vs l)(e:mkT l H k=true) :
  PX W fs noX ι s k (.ref s.heap.objs.size) ⟨s.heap.push { cls:=.type "tuple",data:=.seq vs.toArray n },s.gens,dr,tk,s.os⟩:=by
 obtain⟨ln,e⟩:=aA e
 have K:=aj s.heap { cls:=.type "tuple",data:=.seq vs.toArray n }
 exact⟨ι,H,_,S.keeps K,.of_keeps K,.tup (Heap.get?_push_size _ rfl) ln (by simpa using rv.mono (Sub.refl _) (TK.of_keeps K)) (S.fv (aw (Nat.le_refl _))),e⟩
theorem iT (S:St W fs ι H s)(rv:RVs W ι s.heap vs l)(e:mkL l H k=true) :
  PX W fs noX ι s k (.ref s.heap.objs.size) ⟨s.heap.push { cls:=.type "list",data:=.seq vs.toArray n },s.gens,dr,tk,s.os⟩:=by
 obtain⟨ln,e⟩:=aA e
 rw[aT] at e
 have K:=aj s.heap { cls:=.type "list",data:=.seq vs.toArray n }
 have no:=aw (h:=s.heap) (Nat.le_refl _)
 have:=S.new K (p:=(s.heap.objs.size,s.heap.objs.size)) (o:=.list l) (tk:=tk) (dr:=dr) no no fun tk=>⟨rfl,ln,_,n,Heap.get?_push_size _ rfl,by simpa using rv.mono (aN S.unused) tk⟩
 exact⟨_,_,_,this.1,this.2,.ref (ao _ _ _),e⟩
theorem Ey {l es k pos}(hl:SL W sc l es):SX W sc (vG l) (.Tuple es k pos):=fun r d A fs env f ι H s k e h t=>by
 refine wpAny_Tuple (wpAny_mono (hl pos r d A fs env f ι H s _ e h t) (fun vs s1 P=>?_) fun U U z=>z)
 obtain⟨ι',H',y,S,E,rv,t⟩:=P
 have:=(aA t).1
 exact⟨by rw[rv.length];unfold sizeLine;omega,(nP S rv t).from E⟩
theorem jQ {l es pos}(hl:SL W sc l es):SX W sc (AS l) (.List es pos):=fun r d A fs env f ι H s k e h t=>by
 refine wpAny_List (wpAny_mono (hl pos r d A fs env f ι H s _ e h t) (fun vs s1 P=>?_) fun U U z=>z)
 obtain⟨ι',H',y,S,E,rv,t⟩:=P
 have:=(aA t).1
 exact⟨by rw[rv.length];unfold sizeLine;omega,(iT S rv t).from E⟩
end
noncomputable def dl (d:List (Nat × Vl))(c:Nat):Option Vl:=(d.find? fun p=>Nat.beq p.1 c).map (·.2)
theorem sY (a:Nat)(w:Vl)(r:List (Nat × Vl))(c:Nat):dl ((a,w) :: r) c=if Nat.beq a c then some w else dl r c:=by
 unfold dl
 simp only[List.find?_cons]
 cases Nat.beq a c<;>rfl
theorem sI (k:Vl→Bool)(kn:Bool)(c:Nat):∀ d:List (Nat × Vl),cI d c kn k=match dl d c with | none=>kn | some v=>k v
 | []=>rfl
 | (a,w) :: r=>by
  show(@Bool.rec (fun U=>Bool) (cI r c kn k) (k w) (Nat.beq a c))=_
  rw[sY]
  cases Nat.beq a c
  ·exact sI k kn c r
  ·rfl
theorem aV (e:cI d c kn k=true):(dl d c=none∧kn=true)∨∃ v,dl d c=some v∧k v=true:=by
 rw[sI] at e
 cases h:dl d c with
 | none=>rw[h] at e;exact .inl ⟨rfl,e⟩
 | some v=>rw[h] at e;exact .inr ⟨v,rfl,e⟩
theorem ix {s t:Str}{v:Value}{r:List (Str × Value)}:valueAt ((s,v) :: r) t=if s=t then some v else valueAt r t:=by
 unfold valueAt
 simp only[List.find?_cons]
 by_cases h:s=t<;>simp[h]
section
variable {W:Wd}{ι:Io}{h:Heap}
theorem RK.at {s:Str}{c:Nat}(hs:ag s c):∀ {kvs:List (Str × Value)}{l:List (Nat × Vl)},RK W ι h kvs l→(dl l c=none∧valueAt kvs s=none)∨∃ x v,dl l c=some x∧valueAt kvs s=some v∧RV W ι h v x
 | _,_,.nil=>.inl ⟨rfl,rfl⟩
 | _,_,.cons (s:=t) (c:=a) ht rv r=>by
  rw[sY,ix]
  have q:=ht.eq_iff hs
  by_cases z:a=c
  ·rw[if_pos (q.mpr z),z,Nat.beq_refl,if_pos rfl]
   exact .inr ⟨_,_,rfl,rfl,rv⟩
  ·have:Nat.beq a c=false:=by
    cases y:Nat.beq a c with
    | false=>rfl
    | true=>exact absurd (aD y) z
   rw[this,if_neg (fun e=>z (q.mp e)),if_neg (by decide)]
   exact r.at hs
theorem RK.length (r:RK W ι h kvs l):kvs.length=l.length :=
 RK.rec (motive:=fun kvs l U=>kvs.length=l.length) rfl (fun U U U ih=>congrArg (·+1) ih) r
theorem fL (c:Nat)(x:Vl)(a:Nat)(w:Vl)(r:List (Nat × Vl)):dput c x ((a,w) :: r)=if Nat.beq a c then(a,x) :: r else(a,w) :: dput c x r:=by
 show(@Bool.rec (fun U=>List (Nat × Vl)) ((a,w) :: dput c x r) ((a,x) :: r) (Nat.beq a c))=_
 cases Nat.beq a c<;>rfl
theorem mz (c:Nat)(a:Nat)(w:Vl)(r:List (Nat × Vl)):sx c ((a,w) :: r)=if Nat.beq a c then r else(a,w) :: sx c r:=by
 show(@Bool.rec (fun U=>List (Nat × Vl)) ((a,w) :: sx c r) r (Nat.beq a c))=_
 cases Nat.beq a c<;>rfl
theorem lA (z:a≠c):Nat.beq a c=false:=by
 cases y:Nat.beq a c with
 | false=>rfl
 | true=>exact absurd (aD y) z
theorem ja (s t:Str)(v w:Value)(r:List (Str × Value))(n:t∉r.map (·.1)):stored ((t,w) :: r) s v=if t=s then(t,v) :: r else(t,w) :: stored r s v:=by
 unfold stored
 by_cases q:t=s
 ·subst q
  simp only[List.any_cons,decide_true,Bool.true_or,if_true,List.map_cons,List.cons.injEq,true_and]
  refine(List.map_congr_left fun p m=>?_).trans (List.map_id r)
  have:p.1≠t:=fun e=>n (e▸List.mem_map_of_mem (f:=(·.1)) m)
  rw[if_neg this];rfl
 ·simp only[List.any_cons,q,decide_false,Bool.false_or,if_false,List.map_cons]
  split<;>simp
theorem RK.stored (hs:ag s c)(rv:RV W ι h v x)(r:RK W ι h kvs l):(kvs.map (·.1)).Nodup→RK W ι h (stored kvs s v) (dput c x l):=by
 induction r with
 | nil=>exact fun U=>.cons hs rv .nil
 | @cons t a _ _ _ _ ht rt r ih =>
  intro nd
  have nd':=List.nodup_cons.mp nd
  rw[ja _ _ _ _ _ nd'.1,fL]
  have q:=ht.eq_iff hs
  by_cases z:a=c
  ·rw[if_pos (q.mpr z),z,Nat.beq_refl,if_pos rfl,← z]
   exact .cons ht rv r
  ·rw[lA z,if_neg (fun e=>z (q.mp e)),if_neg (by decide)]
   exact .cons ht rt (ih nd'.2)
theorem RK.without (hs:ag s c)(r:RK W ι h kvs l):(kvs.map (·.1)).Nodup→RK W ι h (without kvs s) (sx c l):=by
 induction r with
 | nil=>exact fun U=>.nil
 | @cons t a w _ es _ ht rt r ih =>
  intro nd
  have nd':=List.nodup_cons.mp nd
  rw[mz]
  have q:=ht.eq_iff hs
  by_cases z:a=c
  ·have e:t=s:=q.mpr z
   subst e
   rw[z,Nat.beq_refl,if_pos rfl]
   have:PySem.without ((t,w) :: es) t=es:=by
    have:=without_of_not_mem es t nd'.1
    unfold PySem.without at this ⊢
    simp only[List.filter_cons,ne_eq,not_true_eq_false,decide_false]
    exact this
   rw[this];exact r
  ·rw[lA z,if_neg (by decide)]
   have e:t≠s:=fun e=>z (q.mp e)
   have:PySem.without ((t,w) :: es) s=(t,w) :: PySem.without es s:=by
    unfold PySem.without
    simp only[List.filter_cons,ne_eq,e,not_false_eq_true,decide_true,if_true]
   rw[this];exact .cons ht rt (ih nd'.2)
end
theorem dO (s:Str)(t:Tok):Value.isStrOf s (.str s t)=true:=by simp[Value.isStrOf]
mutual
inductive DV (sz:List Nat)(H:Hp):PyData→Vl→Prop
 | none:DV sz H .none .none
 | bool (b):DV sz H (.bool b) (.bool b)
 | int (i):DV sz H (.int i) (.int i)
 | str {s c}:ag s c→DV sz H (.str s) (.str c)
 | tup {ds l}:DVs sz H ds l→DV sz H (.tuple ds) (.tup l)
 | list {ds k l}:H.t.get k=some (.list l)→DVs sz H ds l→DV sz H (.list ds) (.ref k)
 | sy {d t w n j x}:cw sz t w n j=some x→DV sz H d x→DV sz H d (.sy t w n j)
inductive DVs (sz:List Nat)(H:Hp):List PyData→List Vl→Prop
 | nil:DVs sz H [] []
 | cons {d x ds xs}:DV sz H d x→DVs sz H ds xs→DVs sz H (d :: ds) (x :: xs)
end
mutual
inductive PV:Vl→Prop
 | int (i):PV (.int i)
 | str (c):PV (.str c)
 | tup {l}:PVs l→PV (.tup l)
inductive PVs:List Vl→Prop
 | nil:PVs []
 | cons {x l}:PV x→PVs l→PVs (x :: l)
end
def DVi (sz:List Nat)(H:Hp)(d:PyData)(x:Vl):Prop:=@Vl.rec (fun U=>Prop) (fun U=>PUnit) (d = .none) (fun b=>d = .bool b) (fun i=>d = .int i) (fun U=>False) (fun c=>∃ s,d = .str s∧ag s c) (fun l U=>∃ ds,d = .tuple ds∧DVs sz H ds l) (fun k=>∃ l ds,d = .list ds∧H.t.get k=some (.list l)∧DVs sz H ds l)
 (fun U=>False) (fun U=>False) (fun U=>False) False False False (fun t w n j=>∃ x,cw sz t w n j=some x∧DV sz H d x) .unit (fun U U U U=>.unit) x
theorem DV.inv (r:DV sz H d x):DVi sz H d x :=
 DV.casesOn (motive_1:=fun d x U=>DVi sz H d x) r rfl (fun U=>rfl) (fun U=>rfl) (fun h=>⟨_,rfl,h⟩) (fun r=>⟨_,rfl,r⟩) (fun g r=>⟨_,_,rfl,g,r⟩) (fun e r=>⟨_,e,r⟩)
def HB (sz:List Nat)(H:Hp)(ds:List PyData)(xs:List Vl):Prop:=@List.rec Vl (fun U=>Prop) (ds=[]) (fun x xs U=>∃ d r,ds=d :: r∧DV sz H d x∧DVs sz H r xs) xs
theorem DVs.inv (r:DVs sz H ds xs):HB sz H ds xs :=
 DVs.casesOn (motive_2:=fun ds xs U=>HB sz H ds xs) r rfl (fun a b=>⟨_,_,rfl,a,b⟩)
theorem PV.same (p:PV x):∀ {d e:PyData},DV sz H d x→DV sz H e x→PyData.eqv d e=true:=by
 refine PV.rec (motive_1:=fun x U=>∀ {d e:PyData},DV sz H d x→DV sz H e x→PyData.eqv d e=true) (motive_2:=fun l U=>∀ {d e:List PyData},DVs sz H d l→DVs sz H e l→PyData.eqvAll d e=true) (fun i d e a b=>?_) (fun c d e a b=>?_) (fun U ih d e a b=>?_) (fun {d e} a b=>?_) (fun U U ih1 ih2 d e a b=>?_) p
 ·rw[show d = .int i from a.inv,show e = .int i from b.inv]
  simp[PyData.eqv]
 ·refine eE1 (fun s=>aA2 fun z1q1 h=>?_) (a.inv);obtain rfl:=z1q1
  refine eE1 (fun t=>aA2 fun z2q1 h'=>?_) (b.inv);obtain rfl:=z2q1
  rw[h.eq h']
  simp[PyData.eqv]
 ·refine eE1 (fun ds=>aA2 fun z3q1 h=>?_) (a.inv);obtain rfl:=z3q1
  refine eE1 (fun es=>aA2 fun z4q1 h'=>?_) (b.inv);obtain rfl:=z4q1
  exact ih h h'
 ·rw[show d=[] from a.inv,show e=[] from b.inv];rfl
 ·obtain⟨_,_,rfl,a,r⟩:=a.inv
  obtain⟨_,_,rfl,a',r'⟩:=b.inv
  simp only[PyData.eqvAll,ih1 a a',ih2 r r',Bool.and_self]
theorem rS (t:Nat)(h:1≤z∧z≤4):PV (hJ t z)∧∀ H m,dat H (m+10) (hJ t z)=true:=by
 have hz:z=1∨z=2∨z=3∨z=4:=four h.1 h.2
 have one:PV ji:=.tup (.cons (.str _) (.cons (.str _) .nil))
 have lit:∀ v,PV (.tup [.str BO,.int 1,.int v]):=fun v=>.tup (.cons (.str _) (.cons (.int _) (.cons (.int _) .nil)))
 have con:∀ v,PV (.tup [.str m8,ji,.int v]):=fun v=>.tup (.cons (.str _) (.cons one (.cons (.int _) .nil)))
 match t with
 | 0=>exact⟨.int _,fun H m=>rfl⟩
 | 1 =>
  rcases hz with rfl | rfl | rfl | rfl
  ·exact⟨.tup (.cons (.str _) (.cons (.int _) (.cons (.tup (.cons (lit _) .nil)) .nil))),fun H m=>rfl⟩
  ·exact⟨.tup (.cons (.str _) (.cons (.int _) (.cons (.tup (.cons (lit _) (.cons (lit _) .nil))) .nil))),fun H m=>rfl⟩
  ·exact⟨.tup (.cons (.str _) (.cons (.int _) (.cons (.tup (.cons (lit _) (.cons (lit _) (.cons (lit _) .nil)))) .nil))),fun H m=>rfl⟩
  ·exact⟨.tup (.cons (.str _) (.cons (.int _) (.cons (.tup (.cons (lit _) (.cons (lit _) (.cons (lit _) (.cons (lit _) .nil))))) .nil))),fun H m=>rfl⟩
 | t+2 =>
  rcases hz with rfl | rfl | rfl | rfl
  ·exact⟨.tup (.cons (.str _) (.cons one (.cons (.tup (.cons (con _) .nil)) .nil))),fun H m=>rfl⟩
  ·exact⟨.tup (.cons (.str _) (.cons one (.cons (.tup (.cons (con _) (.cons (con _) .nil))) .nil))),fun H m=>rfl⟩
  ·exact⟨.tup (.cons (.str _) (.cons one (.cons (.tup (.cons (con _) (.cons (con _) (.cons (con _) .nil)))) .nil))),fun H m=>rfl⟩
  ·exact⟨.tup (.cons (.str _) (.cons one (.cons (.tup (.cons (con _) (.cons (con _) (.cons (con _) (.cons (con _) .nil))))) .nil))),fun H m=>rfl⟩
theorem bB (e:cw sz t w n j=some x):n=sz.length∧w=(if 256 < sz.foldl (· * ·) 1 then 1 else 0) ∧
  ((t=3∧j≤n∧x = .int (Int.ofNat ((sz.take j).foldl (· * ·) 1)))∨(t≤2∧∃ z,sz[j]? = some z∧x=hJ t z)):=by
 unfold cw at e
 by_cases h:n=sz.length∧w=(if 256 < sz.foldl (· * ·) 1 then 1 else 0)
 ·rw[if_pos h] at e
  refine⟨h.1,h.2,?_⟩
  by_cases ht:t=3
  ·rw[if_pos ht] at e
   by_cases hj:j≤n
   ·rw[if_pos hj] at e;replace e:=ab e;subst e;exact .inl ⟨ht,hj,rfl⟩
   ·rw[if_neg hj] at e;exact zns e
  ·rw[if_neg ht] at e
   by_cases ht2:t≤2
   ·rw[if_pos ht2] at e
    refine eE1 (fun z=>aA2 fun hz e=>?_) (aC e)
    exact .inr ⟨ht2,z,hz,e.symm⟩
   ·rw[if_neg ht2] at e;exact zns e
 ·rw[if_neg h] at e;exact zns e
theorem jS (ok:∀ z∈sz,1≤z∧z≤4)(e:cw sz t w n j=some x):PV x∧∀ H m,dat H (m+10) x=true:=by
 obtain⟨_,_,⟨_,_,rfl⟩| ⟨_,z,hz,rfl⟩⟩:=bB e
 ·exact⟨.int _,fun H m=>rfl⟩
 ·exact rS t (ok z (List.mem_of_getElem? hz))
theorem ae (e:(@Bool.rec (fun U=>Bool) false k b)=true):b=true∧k=true:=by
 cases b
 ·exact ft e
 ·exact⟨rfl,e⟩
theorem uq (e:allB p (v :: l)=true):p v=true∧allB p l=true:=ae e
theorem ag.strOk (h:ag s c):PyData.strOk s=true:=by
 unfold PyData.strOk
 rw[← Array.all_toList,List.all_eq_true]
 intro x hx
 have:=(h.ok x hx).2
 exact decide_eq_true (fS this (by simp +arith only))
section
variable {W:Wd}{fs:List Env}{ι:Io}{H:Hp}{s:Shared}
theorem eF (ih:∀ v x,RV W ι s.heap v x→dat H n x=true→∃ d as,Reads s.heap v d as∧d.canLay0=true∧d.depth≤n∧DV W.bJ H d x):∀ {vs:List Value},RVs W ι s.heap vs l→allB (dat H n) l=true →
  ∃ ds as,ReadsAll s.heap vs ds as∧PyData.canLayAll0 ds=true∧PyData.depthAll ds≤n∧DVs W.bJ H ds l:=by
 induction l with
 | nil=>intro vs r _;rw[show vs=[] from r.inv];exact⟨[],[],.nil,rfl,Nat.zero_le _,.nil⟩
 | cons x l ihl =>
  intro vs r e
  refine bC fun G=>?_;obtain⟨v,r',rfl,a,r⟩:=r.inv
  obtain⟨e1,e2⟩:=uq e
  obtain⟨d,as,h1,h2,h3,h4⟩:=ih _ _ a e1
  obtain⟨ds,bs,k1,k2,k3,k4⟩:=ihl r e2
  apply G;exact⟨d :: ds,as++bs,.cons h1 k1,by simp only[PyData.canLayAll0,h2,k2,Bool.and_self],Nat.max_le.mpr ⟨h3,k3⟩,.cons h4 k4⟩
set_option tactic.hygienic true in
theorem bW (S:St W fs ι H s)(n:Nat):∀ (v:Value)(x:Vl),RV W ι s.heap v x→dat H n x=true→∃ d as,Reads s.heap v d as∧d.canLay0=true∧d.depth≤n∧DV W.bJ H d x:=by
 induction n with
 | zero=>exact fun U U U e=>nomatch e
 | succ n ih =>
  intro v x r e
  cases r<;>first | exact nf e | skip
  ·exact⟨_,_,.none,rfl,Nat.zero_le _,.none⟩
  ·exact⟨_,_,.bool _,rfl,Nat.zero_le _,.bool _⟩
  ·exact⟨_,_,.int _ _,rfl,Nat.zero_le _,.int _⟩
  ·rename_i hs;exact⟨_,_,.str _ _,hs.strOk,Nat.zero_le _,.str hs⟩
  ·rename_i g ln r _
   refine eE2 (fun ds as=>aA4 fun h1 h2 h3 h4=>?_) (eF ih r e)
   exact⟨.tuple ds,as,.tuple g rfl rfl h1,by simpa only[PyData.canLay0] using h2,Nat.succ_le_succ h3,.tup h4⟩
  ·rename_i k ek
   refine eE1 (fun o=>aA2 fun go e=>?_) (af (k:=fun o=>(aW false (fun l=>allB (dat H n) l) o)) e)
   cases o<;>first | exact nf e | skip
   obtain⟨eq,ln,vs,m,g,r⟩:=S.ro ek go
   refine eE2 (fun ds as=>aA4 fun h1 h2 h3 h4=>?_) (eF ih r e)
   exact⟨.list ds,_,.list g rfl rfl h1,by simpa only[PyData.canLay0] using h2,Nat.succ_le_succ h3,.list go h4⟩
  ·rename_i es r
   obtain⟨m,rfl⟩:∃ m,n=m+10:=⟨n - 10,(Nat.sub_add_cancel (bS e)).symm⟩
   refine eE2 (fun d as=>aA4 fun h1 h2 h3 h4=>?_) (ih _ _ r ((jS W.cY.1 es).2 H m))
   exact⟨d,as,h1,h2,Nat.le_succ_of_le h3,.sy es h4⟩
end
theorem yM (a b:Int):eqB a b=(a == b):=by
 cases a with
 | ofNat m =>
  cases b with
  | ofNat n =>
   show Nat.beq m n=_
   by_cases h:m=n
   ·subst h;simp
   ·rw[lA h]
    have:(Int.ofNat m)≠(Int.ofNat n):=fun e=>h (Int.ofNat.inj e)
    exact(beq_eq_false_iff_ne.mpr this).symm
  | negSucc n=>rfl
 | negSucc m =>
  cases b with
  | ofNat n=>rfl
  | negSucc n =>
   show Nat.beq m n=_
   by_cases h:m=n
   ·subst h;simp
   ·rw[lA h]
    have:(Int.negSucc m)≠(Int.negSucc n):=fun e=>h (Int.negSucc.inj e)
    exact(beq_eq_false_iff_ne.mpr this).symm
section
variable {H:Hp}{sz:List Nat}
theorem qr (ih:∀ {d e x y}(k:Bool→Bool),DV sz H d x→DV sz H e y→ve x y k=true→k (PyData.eqv d e)=true)
  : ∀ {ds es:List PyData}{m:List Vl}(k:Bool→Bool),DVs sz H ds l→DVs sz H es m→leq ve l m k=true→k (PyData.eqvAll ds es)=true:=by
 induction l with
 | nil =>
  intro ds es m k a b e
  rw[show ds=[] from a.inv]
  cases m with
  | nil=>rw[show es=[] from b.inv];exact e
  | cons _ _=>refine eE2 (fun U U=>aA2 fun z18q2 U=>?_) (b.inv);obtain rfl:=z18q2;exact e
 | cons x l ihl =>
  intro ds es m k a b e
  obtain⟨d,ds,rfl,a,r⟩:=a.inv
  cases m with
  | nil=>rw[show es=[] from b.inv];exact e
  | cons y m =>
   obtain⟨d',es,rfl,a',r'⟩:=b.inv
   have:=ih _ a a' (e:ve _ _ (fun t=>@Bool.rec (fun U=>Bool) (k false) (leq ve _ _ k) t)=true)
   show k (PyData.eqv d d'&&PyData.eqvAll ds es)=true
   cases q:PyData.eqv d d' with
   | false=>rw[q] at this;exact this
   | true=>rw[q] at this;exact ihl k r r' this
theorem xU (g:H.t.get i=some (.list l))(g':H.t.get j=some (.list m))(e:veq H (n+1) (.ref i) (.ref j) k=true):leq (veq H n) l m k=true:=by
 refine bC fun G=>?_;refine eE1 (fun o=>aA2 fun go e=>?_) (af (k:=fun o=>aL H _ fun q=>(aW false (fun l=>(aW false (fun m=>leq (veq H n) l m k) q)) o)) e)
 rw[g] at go;replace go:=ab go;subst go
 refine eE1 (fun o=>aA2 fun go e=>?_) (af (k:=fun q=>(aW false (fun m=>leq (veq H n) l m k) q)) e)
 rw[g'] at go;replace go:=ab go;subst go
 apply G;exact e
theorem FX (ok:∀ z∈sz,1≤z∧z≤4)(es:cw sz t w m j=some x)(es':cw sz t' w' m' j'=some x')(a:DV sz H d x)(a':DV sz H d' x')(e:veq H (n+1) (.sy t w m j) (.sy t' w' m' j') k=true):k (PyData.eqv d d')=true:=by
 refine bC fun G=>?_;obtain⟨e1,eb⟩:=ae (show(@Bool.rec (fun U=>Bool) false (@Bool.rec (fun U=>Bool) false (k true) (Nat.beq j j')) (Nat.beq t t'))=true from e)
 obtain⟨e2,ec⟩:=ae eb
 have e1:=aD e1
 have e2:=aD e2
 refine aA3 (fun n1 w1 U=>?_) (bB es)
 refine aA3 (fun n2 w2 U=>?_) (bB es')
 rw[e1,e2,w1.trans w2.symm,n1.trans n2.symm,es'] at es
 replace es:=ab es;subst es
 apply G;rw[(jS ok es').1.same a a'];exact ec
set_option tactic.hygienic true in
theorem kQ (ok:∀ z∈sz,1≤z∧z≤4)(n:Nat):∀ {d e:PyData}{x y:Vl}(k:Bool→Bool),DV sz H d x→DV sz H e y→veq H n x y k=true→k (PyData.eqv d e)=true:=by
 induction n with
 | zero=>exact fun U U U e=>nomatch e
 | succ n ih =>
  intro d e x y k a b t
  cases a<;>cases b<;>first | exact t | exact nf t | skip
  ·rename_i a b;cases a<;>cases b<;>exact t
  ·rename_i i j
   have t:k (eqB i j)=true:=t
   rw[yM] at t;exact t
  ·rename_i a hs _ b ht
   have t:k (Nat.beq a b)=true:=t
   rw[← hs.beq ht] at t;exact t
  ·rename_i a _ _ b;exact qr ih k a b t
  ·rename_i g a _ _ _ g' b;exact qr ih k a b (xU g g' t)
  ·rename_i es a _ _ _ _ _ es' a';exact FX ok es es' a a' t
end
theorem qz (e:eqG H x y k=true):dat H 40 x=true∧dat H 40 y=true∧veq H 40 x y k=true:=by
 obtain⟨e1,e⟩:=ae e
 exact⟨e1,ae e⟩
theorem pI (e:inG H x l k=true):dat H 40 x=true∧allB (dat H 40) l=true∧isIn H x l k=true:=by
 obtain⟨e1,e⟩:=ae e
 exact⟨e1,ae e⟩
theorem isIn_true (ok:∀ z∈sz,1≤z∧z≤4)(hd:DV sz H d x):∀ {ds:List PyData},DVs sz H ds l→isIn H x l k=true→k (ds.any fun y=>PyData.eqv y d)=true:=by
 induction l with
 | nil=>intro ds r e;rw[show ds=[] from r.inv];exact e
 | cons y l ih =>
  intro ds r e
  obtain⟨d',ds,rfl,a,r⟩:=r.inv
  have:=kQ ok 40 _ a hd (e:veq H 40 _ x (fun t=>@Bool.rec (fun U=>Bool) (isIn H x _ k) (k true) t)=true)
  rw[List.any_cons]
  cases q:PyData.eqv d' d with
  | false=>rw[q] at this;exact ih r this
  | true=>rw[q] at this;exact this
theorem mR (a b:Int):ltB a b=decide (a < b):=by
 have key:∀ (m n:Nat)(p:Prop) [Decidable p],(m < n↔p)→Nat.ble (m+1) n=decide p:=fun m n p U i=>by
  by_cases h:m < n
  ·rw[Nat.ble_eq_true_of_le h,decide_eq_true (i.mp h)]
  ·rw[decide_eq_false (fun z=>h (i.mpr z))]
   cases q:Nat.ble (m+1) n with
   | false=>rfl
   | true=>exact absurd (bS q) h
 cases a with
 | ofNat m =>
  cases b with
  | ofNat n=>exact key m n _ (by simp only[Int.ofNat_eq_natCast];omega)
  | negSucc n=>exact(decide_eq_false (by simp only[Int.ofNat_eq_natCast];omega)).symm
 | negSucc m =>
  cases b with
  | ofNat n=>exact(decide_eq_true (by simp only[Int.ofNat_eq_natCast];omega)).symm
  | negSucc n=>exact key n m _ (by omega)
def kF (W:Wd)(op:CmpOp)(o:Cmp):Prop:=∀ (A:Around)(fs:List Env)(d:Nat)(ι:Io)(H:Hp)(s:Shared)(a b:Value)(x y:Vl)(k:Bool→Bool)(E:Value→Shared→Prop),
 Ar A fs d→St W fs ι H s→RV W ι s.heap a x→RV W ι s.heap b y→o H x y k=true→wpAny (model W.prog W.w) A (compareOp op a b) (fun v s'=>∃ t tk,v = .bool t∧s'={ s with toks:=tk }∧k t=true) E s
section
variable {W:Wd}{sc:Sc}
theorem Ar.room (a:Ar A fs d):A.units+99 < cLine:=by
 have:=a.units;unfold cLine;omega
theorem EU {op o a b e1 e2 pos}(ha:SX W sc a e1)(hb:SX W sc b e2)(ho:kF W op o)(hm:behindInMarks op e2=false):SX W sc (EG o a b) (.Compare e1 [op] [e2] pos):=fun r d A fs env f ι H s k e h t=>by
 refine wpAny_Compare1 (wpAny_mono (ha r d A fs env f ι H s _ e h t) (fun v s1 P=>?_) fun U U z=>z) hm
 obtain⟨ι1,H1,y,S1,E1,rv,t⟩:=P
 have h1:=h.next S1 E1
 refine wpAny_mono (hb r d A fs env f ι1 H1 s1 _ e h1 t) (fun w s2 P=>?_) fun U U z=>z.from E1
 obtain⟨ι2,H2,z,S2,E2,rw_,t⟩:=P
 refine wpAny_mono (ho A fs d ι2 H2 s2 v w y z _ _ h.ar S2 (rv.ext E2) rw_ t) (fun u s3 P=>?_) fun U U z=>z
 revert P;refine eE2 fun b tk=>aA3 fun z32q2 z32q3 t=>?_;obtain rfl:=z32q2;obtain rfl:=z32q3
 exact⟨ι2,H2,_,S2.toks _,(E1.trans E2),.bool _,t⟩
theorem Ef {op o a b e1 e2 pos}(ha:SX W sc a e1)(hb:SX W sc b e2)(ho:kF W op o)(hm:behindInMarks op e2=false):ST W sc (EG o a b) (.Compare e1 [op] [e2] pos):=fun r d A fs env f ι H s p q e h t=>by
 refine wpAny_isTrue_Compare1 (wpAny_mono (ha r d A fs env f ι H s _ e h t) (fun v s1 P=>?_) fun U U z=>z) hm
 obtain⟨ι1,H1,y,S1,E1,rv,t⟩:=P
 have h1:=h.next S1 E1
 refine wpAny_mono (hb r d A fs env f ι1 H1 s1 _ e h1 t) (fun w s2 P=>?_) fun U U z=>z.from E1
 obtain⟨ι2,H2,z,S2,E2,rw_,t⟩:=P
 refine wpAny_mono (ho A fs d ι2 H2 s2 v w y z _ _ h.ar S2 (rv.ext E2) rw_ t) (fun u s3 P=>?_) fun U U z=>z
 revert P;refine eE2 fun b tk=>aA3 fun z35q2 z35q3 t=>?_;obtain rfl:=z35q2;obtain rfl:=z35q3
 refine wpAny_truthy_bool ⟨ι2,H2,S2.toks _,(E1.trans E2),?_⟩
 cases b<;>exact t
set_option tactic.hygienic true in
theorem oZ (e:eqV H x y k=true):eqG H x y k=true∨∃ (n:Nat)(j:Int),x = .ge n∧y = .int j∧j < n∧k false=true:=by
 cases x<;>first | exact .inl e | skip
 rename_i n
 cases y<;>first | exact nf e | exact ns e | skip
 rename_i j
 obtain⟨e1,e⟩:=ae e
 rw[mR] at e1
 exact .inr ⟨n,j,rfl,rfl,au e1,e⟩
theorem BJ:kF W .Eq HI:=fun A fs d ι H s a b x y k E ar S ra rb t=>by
 refine bC fun G=>?_;rcases oZ t with t | ⟨n,j,rfl,rfl,lt,t⟩
 ·refine aA3 (fun e1 e2 e3=>?_) (qz t)
  refine eE2 (fun da as=>aA4 fun h1 h2 h3 h4=>?_) (bW S 40 a x ra e1)
  refine eE2 (fun db bs=>aA4 fun k1 k2 k3 k4=>?_) (bW S 40 b y rb e2)
  apply G;refine compareEq_reads h1 k1 h2 k2 ?_ ⟨_,s.toks,rfl,rfl,kQ W.cY.1 40 k h4 k4 e3⟩
  have:=ar.room
  have:min da.depth db.depth≤da.depth:=Nat.min_le_left _ _
  omega
 ·refine eE2 (fun U t'=>aA2 fun z40q2 hi=>?_) (ra.inv);obtain rfl:=z40q2;apply G;next =>
    obtain⟨u,rfl⟩:=rb.inv
    refine compareEq_reads (.int _ _) (.int _ _) rfl rfl ?_ ⟨_,s.toks,rfl,rfl,?_⟩
    ·have:=ar.room;show A.units+0 < cLine;omega
    ·simp only[PyData.eqv]
     rw[beq_eq_false_iff_ne.mpr (by omega)];exact t
theorem BL:kF W .NotEq GJ:=fun A fs d ι H s a b x y k E ar S ra rb t=>by
 refine bC fun G=>?_;rcases oZ t with t | ⟨n,j,rfl,rfl,lt,t⟩
 ·refine aA3 (fun e1 e2 e3=>?_) (qz t)
  refine eE2 (fun da as=>aA4 fun h1 h2 h3 h4=>?_) (bW S 40 a x ra e1)
  refine eE2 (fun db bs=>aA4 fun k1 k2 k3 k4=>?_) (bW S 40 b y rb e2)
  apply G;refine compareNe_reads h1 k1 h2 k2 ?_ ⟨_,s.toks,rfl,rfl,kQ W.cY.1 40 _ h4 k4 e3⟩
  have:=ar.room
  have:min da.depth db.depth≤da.depth:=Nat.min_le_left _ _
  omega
 ·refine eE2 (fun U t'=>aA2 fun z45q2 hi=>?_) (ra.inv);obtain rfl:=z45q2;apply G;next =>
    obtain⟨u,rfl⟩:=rb.inv
    refine compareNe_reads (.int _ _) (.int _ _) rfl rfl ?_ ⟨_,s.toks,rfl,rfl,?_⟩
    ·have:=ar.room;show A.units+0 < cLine;omega
    ·simp only[PyData.eqv]
     rw[beq_eq_false_iff_ne.mpr (by omega)];exact t
set_option tactic.hygienic true in
theorem Aa:kF W .Lt HY:=fun A fs d ι H s a b x y k E ar S ra rb t=>by
 refine bC fun G=>?_;cases x<;>first | exact nf t | exact ns t | skip
 ·rename_i i
  cases y<;>first | exact nf t | exact ns t | skip
  rename_i j
  obtain⟨_,rfl⟩:=ra.inv
  obtain⟨_,rfl⟩:=rb.inv
  apply G;refine PySem.wpAny_lt_int ⟨_,s.toks,rfl,rfl,?_⟩
  rw[← mR];exact t
 ·rename_i n
  cases y<;>first | exact nf t | exact ns t | skip
  rename_i j
  refine eE2 (fun U U=>aA2 fun z49q2 h=>?_) (ra.inv);obtain rfl:=z49q2
  obtain⟨_,rfl⟩:=rb.inv
  apply G;refine PySem.wpAny_lt_int ⟨_,s.toks,rfl,rfl,?_⟩
  have t:(@Bool.rec (fun U=>Bool) (k false) false (ltB (.ofNat n) j))=true:=t
  rw[mR] at t
  by_cases q:(Int.ofNat n) < j
  ·rw[decide_eq_true q] at t;exact ft t
  ·rw[decide_eq_false q] at t
   rw[decide_eq_false]
   ·exact t
   ·intro z;exact q (Int.lt_of_le_of_lt h z)
set_option tactic.hygienic true in
theorem AF:kF W .Gt GI:=fun A fs d ι H s a b x y k E ar S ra rb t=>by
 refine bC fun G=>?_;cases x<;>first | exact nf t | exact ns t | skip
 ·rename_i i
  cases y<;>first | exact nf t | exact ns t | skip
  rename_i j
  obtain⟨_,rfl⟩:=ra.inv
  obtain⟨_,rfl⟩:=rb.inv
  apply G;refine PyProof.Rows.gt_int ⟨_,s.toks,rfl,rfl,?_⟩
  rw[← mR];exact t
 ·rename_i t0 w n j
  cases y<;>first | exact nf t | exact ns t | skip
  rename_i i
  have t:(@Bool.rec (fun U=>Bool) false (@Bool.rec (fun U=>Bool) false (@Bool.rec (fun U=>Bool) false (k (Nat.beq w 1)) (Nat.beq j n)) (Nat.beq t0 3)) (eqB i (.ofNat 256)))=true:=t
  obtain⟨e1,ta⟩:=ae t
  obtain⟨e2,tb⟩:=ae ta
  obtain⟨e3,tc⟩:=ae tb
  rw[yM] at e1
  have e1:i=256:=by simpa using e1
  have e2:=aD e2
  have e3:=aD e3
  subst e1 e2 e3
  refine eE1 (fun U=>aA2 fun es r=>?_) (ra.inv);apply G;next =>
   obtain⟨hn,hw,⟨_,_,rfl⟩| ⟨h,_⟩⟩:=bB es
   ·obtain⟨_,rfl⟩:=r.inv
    obtain⟨_,rfl⟩:=rb.inv
    refine PyProof.Rows.gt_int ⟨_,s.toks,rfl,rfl,?_⟩
    rw[hn,List.take_length]
    rw[hw] at tc
    by_cases q:256 < W.bJ.foldl (· * ·) 1
    ·rw[if_pos q] at tc
     rw[decide_eq_true (by simp only[Int.ofNat_eq_natCast];omega)];exact tc
    ·rw[if_neg q] at tc
     rw[decide_eq_false (by simp only[Int.ofNat_eq_natCast];omega)];exact tc
   ·omega
theorem oG (e:isV x y k=true):y = .none∧isNone x k=true:=by
 cases y<;>first | exact⟨rfl,e⟩| exact ft e
theorem Ea (e:btV n=some v):v≠.none:=by
 have:=m9 (p:=fun v=>!(v == .none)) (by decide) e
 intro z;subst z;exact ft this
theorem jj (r:RV W ι h v x)(e:isNone x k=true):k (v == .none)=true:=by
 have ne:∀ a,(Value.ref a == Value.none)=false:=fun a=>rfl
 cases r with
 | none=>exact e
 | any=>exact ft e
 | sy=>exact ft e
 | bt h =>
  rw[beq_eq_false_iff_ne.mpr (Ea h)];exact e
 | _=>exact e
theorem AH:kF W .Is GB:=fun A fs d ι H s a b x y k E ar S ra rb t=>by
 obtain⟨rfl,t⟩:=oG t
 obtain rfl:=rb.inv
 exact is_none_gen ⟨_,s.toks,rfl,rfl,jj ra t⟩
theorem rB:kF W .IsNot HP:=fun A fs d ι H s a b x y k E ar S ra rb t=>by
 obtain⟨rfl,t⟩:=oG t
 obtain rfl:=rb.inv
 exact isnot_none_gen ⟨_,s.toks,rfl,rfl,jj ra t⟩
theorem St.fO {fs ι H}(S:St W fs ι H s)(e:ι k=some p):(p.1 == sysModules)=false:=by
 obtain⟨o,g⟩:=S.mods
 have:=(S.fresh p.1 (.inr ⟨k,p,e,.inl rfl⟩)).1
 refine beq_eq_false_iff_ne.mpr fun z=>?_
 rw[z,g] at this;exact zsn this
theorem sD {fs ι H}(S:St W fs ι H s)(ra:RV W ι s.heap a x)(rb:RV W ι s.heap b y)(t:contains H x y k=true) :
  (∃ ds as d bs,(Reads s.heap b (.list ds) as∨Reads s.heap b (.tuple ds) as)∧Reads s.heap a d bs∧PyData.canLayAll0 ds=true∧d.canLay0=true∧PyData.depthAll ds≤40∧k (ds.any fun y=>PyData.eqv y d)=true) ∨
  ∃ st tk D kvs,a = .str st tk∧b = .ref D∧(D == sysModules)=false∧s.heap.DictOf W.sk D kvs∧k (valueAt kvs st).isSome=true:=by
 cases y with
 | tup l =>
  refine bC fun G=>?_;refine aA3 (fun e1 e2 e3=>?_) (pI (show inG H x l k=true from t))
  refine eE2 (fun d bs=>aA4 fun k1 k2 k3 k4=>?_) (bW S 40 a x ra e1)
  refine eE3 (fun U U U=>aA5 fun z67q3 g ln r U=>?_) (rb.inv);obtain rfl:=z67q3;apply G;next =>
   refine eE2 (fun ds as=>aA4 fun h1 h2 h3 h4=>?_) (eF (bW S 40) r e2)
   exact .inl ⟨ds,as,d,bs,.inr (.tuple g rfl rfl h1),k1,h2,k2,h3,isIn_true W.cY.1 k4 h4 e3⟩
 | ref j =>
  refine eE1 (fun o=>aA2 fun go t=>?_) (af t)
  cases o with
  | list l =>
   refine bC fun G=>?_;refine aA3 (fun e1 e2 e3=>?_) (pI (show inG H x l k=true from t))
   refine eE2 (fun d bs=>aA4 fun k1 k2 k3 k4=>?_) (bW S 40 a x ra e1)
   refine eE1 (fun p=>aA3 fun ep z72q2 z72r=>?_) (S.get rb go);obtain rfl:=z72q2;obtain⟨eq,ln,vs,m,g,r⟩:=z72r
   refine eE2 (fun ds as=>aA4 fun h1 h2 h3 h4=>?_) (eF (bW S 40) r e2)
   apply G;exact .inl ⟨ds,_,d,bs,.inl (.list g rfl rfl h1),k1,h2,k2,h3,isIn_true W.cY.1 k4 h4 e3⟩
  | dict l =>
   refine bC fun G=>?_;refine eE1 (fun c=>aA2 fun hc t2=>?_) (aG (k:=fun s=>cI l s (k false) fun U=>k true) t)
   subst hc;clear t;have t:=t2
   refine eE1 (fun p=>aA3 fun ep z75q2 z75r=>?_) (S.get rb go);obtain rfl:=z75q2;obtain⟨eq,ln,kvs,g,r⟩:=z75r
   refine eE2 (fun U tk=>aA2 fun z76q2 hs=>?_) (ra.inv);obtain rfl:=z76q2;apply G;next =>
    refine .inr ⟨_,tk,p.1,kvs,rfl,rfl,S.fO ep,g,?_⟩
    refine oO (aA2 fun q1 q2=>?_) (eE2 fun x v=>aA3 fun q1 q2 U=>?_) (r.at hs)
    ·rw[q2];refine oO (aA2 fun U t=>?_) (eE1 fun v=>aA2 fun e U=>?_) (aV t)
     ·exact t
     ·rw[q1] at e;exact zns e
    ·rw[q2];refine oO (aA2 fun e U=>?_) (eE1 fun v=>aA2 fun U t=>?_) (aV t)
     ·rw[q1] at e;exact zsn e
     ·exact t
  | _=>(first | exact nf t | exact ns t | cases t)
 | _=>(first | exact nf t | exact ns t | cases t)
theorem Bu:kF W .In Hj:=fun A fs d ι H s a b x y k E ar S ra rb t=>by
 refine bC fun G=>?_;rcases sD S ra rb t with ⟨ds,as,d',bs,rc,ra',h1,h2,h3,h4⟩| ⟨st,tk,D,kvs,rfl,rfl,ns,g,h⟩
 ·have hu:A.units+1+min (PyData.depthAll ds) d'.depth < cLine:=by
   have:=ar.room
   have:min (PyData.depthAll ds) d'.depth≤PyData.depthAll ds:=Nat.min_le_left _ _
   omega
  rcases rc with rc | rc
  ·apply G;exact in_list_reads rc ra' h1 h2 hu ⟨_,s.toks,rfl,rfl,h4⟩
  ·apply G;exact in_tuple_reads rc ra' h1 h2 hu ⟨_,s.toks,rfl,rfl,h4⟩
 ·apply G;exact wpAny_in_of (knd:=W.sk) (k:=st) (dO st tk) ns g.mapOf ⟨_,_,rfl,rfl,h⟩
theorem ru:kF W .NotIn Hg:=fun A fs d ι H s a b x y k E ar S ra rb t=>by
 refine bC fun G=>?_;rcases sD S ra rb t with ⟨ds,as,d',bs,rc,ra',h1,h2,h3,h4⟩| ⟨st,tk,D,kvs,rfl,rfl,ns,g,h⟩
 ·have hu:A.units+1+min (PyData.depthAll ds) d'.depth < cLine:=by
   have:=ar.room
   have:min (PyData.depthAll ds) d'.depth≤PyData.depthAll ds:=Nat.min_le_left _ _
   omega
  rcases rc with rc | rc
  ·apply G;exact notIn_list_reads rc ra' h1 h2 hu ⟨_,s.toks,rfl,rfl,h4⟩
  ·apply G;exact notIn_tuple_reads rc ra' h1 h2 hu ⟨_,s.toks,rfl,rfl,h4⟩
 ·apply G;exact wpAny_notIn_of (knd:=W.sk) (k:=st) (dO st tk) ns g.mapOf ⟨_,_,rfl,rfl,h⟩
end
theorem iP:fillsNumberSlot (.type "tuple") "mul" = pure false :=
 PySem.fillsNumberSlot_seq (id:="tuple.__mul__") (r:=some (.builtin "tuple.__rmul__")) F.slot_tuple_mul.lookup (by decide +kernel) F.slot_tuple_rmul.lookup (by decide +kernel)
theorem m5:seqRepeat? (.type "tuple")=pure (some (.builtin "tuple.__mul__")):=by
 unfold seqRepeat?
 rw[PySem.seqSlot_of (T:="tuple") (name:="__mul__") (id:="tuple.__mul__") F.slot_tuple_mul.lookup (by decide +kernel),PySem.seqSlot_of (T:="tuple") (name:="__rmul__") (id:="tuple.__rmul__") F.slot_tuple_rmul.lookup (by decide +kernel)]
 rfl
theorem lB (a:Int)(t:Tok)(l:Addr)(items:Array Value)(n:Nat) :
  Meets (Builtin.«int.__rmul__» ⟨[.int a t,.ref l],[]⟩) (fun U R s=>s.heap.get? l=some { cls:=.type "tuple",dict:=none,data:=.seq items n,slots:=#[] }∧R (.ok (.ret Value.notImplemented)) s):=
 .of_wp fun prog w A R s h=>by obtain⟨hp,g,d,tk,os⟩:=s;obtain⟨hl,h⟩:=h;wp_walk;exact⟨_,rfl,h⟩
theorem lO (l:Addr)(items:Array Value)(n:Nat)(u:Tok) :
  Meets (Builtin.«tuple.__mul__» ⟨[.ref l,.int 1 u],[]⟩) (fun U R s=>s.heap.get? l=some { cls:=.type "tuple",dict:=none,data:=.seq items n,slots:=#[] }∧R (.ok (.ret (Value.ref l))) s):=
 .of_wp fun prog w A R s h=>by
  obtain⟨hp,g,d,tk,os⟩:=s;obtain⟨hl,h⟩:=h
  wp_walk
  exact⟨_,rfl,h⟩
theorem lI (l:Addr)(items:Array Value)(n:Nat)(x:Int)(u:Tok)(hc0:¬ (decide (x < -2 ^ 63)|| decide (x≥2 ^ 63))=true)(hc1:¬ (items.isEmpty||x == 1)=true)(hc2:(decide (x≤0)|| items.isEmpty)=true) :
  Meets (Builtin.«tuple.__mul__» ⟨[.ref l,.int x u],[]⟩) (fun U R s=>s.heap.get? l=some { cls:=.type "tuple",dict:=none,data:=.seq items n,slots:=#[] }∧R (.ok (.ret (Value.ref s.heap.objs.size))) { s with heap:=s.heap.push { cls:=Value.type "tuple",data:=Data.seq #[] },toks:=s.toks }):=
 .of_wp fun prog w A R s h=>by
  obtain⟨hp,g,d,tk,os⟩:=s;obtain⟨hl,h⟩:=h
  wp_walk
  refine wpAny_ite_split (fun z=>absurd z hc0) (fun U=>?_)
  wp_walk
  exact⟨_,rfl,h⟩
theorem lD (l:Addr)(items:Array Value)(n:Nat)(x:Int)(u:Tok)(hc0:¬ (decide (x < -2 ^ 63)|| decide (x≥2 ^ 63))=true)(hc1:¬ (items.isEmpty||x == 1)=true)(hc2:¬ (decide (x≤0)|| items.isEmpty)=true)
  (hc3:¬ items.size * x > (2 ^ 63 - 1) / 8)(hc4:¬ Builtin.Tuple.tupleTooMany (items.size * x)=true)(hc5:¬ (List.foldl (fun x1 x2=>x1++x2) #[] (List.replicate x.toNat items)).size > sizeLine) :
  Meets (Builtin.«tuple.__mul__» ⟨[.ref l,.int x u],[]⟩) (fun U R s=>s.heap.get? l=some { cls:=.type "tuple",dict:=none,data:=.seq items n,slots:=#[] }∧R (.ok (.ret (Value.ref s.heap.objs.size))) { s with heap:=s.heap.push { cls:=Value.type "tuple",data:=Data.seq (List.foldl (fun x1 x2=>x1++x2) #[] (List.replicate x.toNat items)) },toks:=s.toks }):=
 .of_wp fun prog w A R s h=>by
  obtain⟨hp,g,d,tk,os⟩:=s;obtain⟨hl,h⟩:=h
  wp_walk
  refine wpAny_ite_split (fun z=>absurd z hc0) (fun U=>?_)
  wp_walk
  refine wpAny_ite_split (fun z=>absurd z hc3) (fun U=>?_)
  wp_walk
  exact⟨_,rfl,h⟩
section
variable {prog:Program}{w:World}{A:Around}{E:Value→Shared→Prop}{s:Shared}
theorem l4 {l:Addr}{v:Value}{n:Nat}{x:Nat}{u:Tok}{Q:Value→Shared→Prop}(hl:IsT s.heap l #[v] n)(hx:x≤1000)
  (h1:x=1→Q (.ref l) s)(h2:Q (.ref s.heap.objs.size) { s with heap:=s.heap.push { cls:=.type "tuple",data:=.seq (List.replicate x v).toArray } }):wpAny (model prog w) A (binaryOp .Mult (.ref l) (.int (x:Int) u)) Q E s:=by
 refine wpAny_binaryOp_repeat_ref (T:="tuple") (U:="int") (by decide) ⟨_,hl,rfl⟩ (fun s'=>typeIs_int s' x u) iP F.fills_int_mul F.slot_int_rmul m5 F.slot_int_index.lookup
  (call_meets F.slot_int_rmul (typeIs_int s x u) F.entry_int_rmul (F.args_int_rmul_2 _ _) (lB x u l #[v] n) ⟨hl,rfl,⟨_,hl,rfl⟩,?_⟩)
 have hc0:¬ (decide ((x:Int) < -2 ^ 63)|| decide ((x:Int)≥2 ^ 63))=true:=by simp;omega
 by_cases e1:x=1
 ·subst e1
  exact call_meets F.slot_tuple_mul ⟨_,hl,rfl⟩ F.entry_tuple_mul (F.args_tuple_mul_2 _ _) (lO l #[v] n u) ⟨hl,h1 rfl⟩
 ·have hc1:¬ ((#[v]:Array Value).isEmpty||(x:Int) == 1)=true:=by simp;omega
  by_cases e0:x=0
  ·subst e0
   exact call_meets F.slot_tuple_mul ⟨_,hl,rfl⟩ F.entry_tuple_mul (F.args_tuple_mul_2 _ _) (lI l #[v] n 0 u hc0 hc1 (by simp)) ⟨hl,h2⟩
  ·have e:List.foldl (fun x1 x2=>x1++x2) #[] (List.replicate (x:Int).toNat #[v])=(List.replicate x v).toArray:=by
    rw[listMul_foldl]
    simp
   refine call_meets F.slot_tuple_mul ⟨_,hl,rfl⟩ F.entry_tuple_mul (F.args_tuple_mul_2 _ _) (lD l #[v] n x u hc0 hc1 (by simp;omega) (by simp;omega) (fun h=>by replace h:=au (show decide ((_:Int) > (sizeLine:Int))=true from h);simp[sizeLine] at h;omega) (by rw[e];simp[sizeLine];omega)) ⟨hl,?_⟩
   rw[e];exact h2
end
theorem vP:∀ {l:List Nat},(∀ x∈l,0 < x∧x < 128)→enc l < 128 ^ l.length
 | [],_=>by simp[enc]
 | a :: r,h=>by
  have h1:=h a (.head _)
  have h2:=vP fun x hx=>h x (.tail _ hx)
  show a+128 * enc r < 128 ^ r.length * 128
  refine Nat.lt_of_lt_of_le (Nat.add_lt_add_right h1.2 _) ?_
  rw[Nat.add_comm,← Nat.mul_succ,Nat.mul_comm _ 128]
  exact Nat.mul_le_mul_left 128 h2
theorem yW:∀ {a:Nat}{l:List Nat},(∀ x∈a :: l,0 < x∧x < 128)→128 ^ l.length≤enc (a :: l)
 | a,[],h=>by
  have h1:=h a (.head _)
  simp only[enc,List.length_nil,Nat.pow_zero];omega
 | a,b :: r,h=>by
  have h2:=yW fun x hx=>h x (.tail _ hx)
  have:enc (a :: b :: r)=a+128 * enc (b :: r):=rfl
  simp only[List.length_cons,Nat.pow_succ] at h2 ⊢;omega
theorem hO (h:∀ x∈l,0 < x∧x < 128):ee (enc l)=l.length:=by
 cases l with
 | nil=>rfl
 | cons a r =>
  have h1:=vP h
  have h2:=yW h
  have p:0 < 128 ^ r.length:=Nat.pow_pos (by decide)
  have hs:∀ n,0 < n→ee n=n.log2 / 7+1:=fun n hn=>by cases n with | zero=>cases hn | succ n=>rfl
  have n1:=Nat.lt_of_lt_of_le p h2
  rw[hs _ n1]
  have n0:enc (a :: r)≠0:=Nat.ne_of_gt n1
  have e1:(128:Nat) ^ r.length=2 ^ (7 * r.length):=by rw[Nat.pow_mul]
  have e2:(128:Nat) ^ (a :: r).length=2 ^ (7 * (a :: r).length):=by rw[Nat.pow_mul]
  rw[e2] at h1;rw[e1] at h2
  have l1:=(Nat.le_log2 n0).mpr h2
  have l2:=(Nat.log2_lt n0).mpr h1
  exact congrArg (·+1) (Nat.div_eq_of_lt_le (by rw[Nat.mul_comm];exact l1) (by rw[Nat.mul_comm];exact l2))
theorem gC:∀ (l m:List Nat),enc (l++m)=enc l+enc m * 128 ^ l.length
 | [],m=>by simp[enc]
 | a :: r,m=>by
  have:=gC r m
  simp only[List.cons_append,enc,List.length_cons,Nat.pow_succ,this]
  rw[Nat.mul_add,← Nat.mul_assoc,Nat.mul_comm 128 (enc m),Nat.mul_assoc (enc m),Nat.mul_comm 128 (128 ^ r.length)];simp +arith only
theorem cps_append (s t:Str):(s++t).cps.toList=s.cps.toList++t.cps.toList:=by
 show(s.cps++t.cps).toList=_
 simp
theorem ag.ee (h:ag s c):Internal.ee c=s.cps.toList.length:=by rw[← h.code,hO h.ok]
theorem ag.append (h:ag s c)(k:ag t d)(hl:Internal.ee (lP c d)≤1000):ag (s++t) (lP c d):=by
 have hok:∀ x∈(s++t).cps.toList,0 < x∧x < 128:=fun x hx=>by
  rw[cps_append] at hx
  rcases List.mem_append.mp hx with hx | hx
  ·exact h.ok x hx
  ·exact k.ok x hx
 have hc:enc (s++t).cps.toList=lP c d:=by
  rw[cps_append,gC]
  show _=c+d * 128 ^ Internal.ee c
  rw[h.ee,h.code,k.code]
 exact⟨hc,hok,by rw[← hO hok,hc];exact hl⟩
def vE (W:Wd)(op:Operator)(o:Bin):Prop:=∀ (A:Around)(fs:List Env)(d:Nat)(ι:Io)(H:Hp)(s:Shared)(a b:Value)(x y:Vl)(k:KV)(E:Value→Shared→Prop),
 Ar A fs d→St W fs ι H s→RV W ι s.heap a x→RV W ι s.heap b y→o H x y k=true→wpAny (model W.prog W.w) A (binaryOp op a b) (PX W fs noX ι s k) E s
section
variable {W:Wd}{sc:Sc}
theorem nR {op o a b e1 e2 pos}(ha:SX W sc a e1)(hb:SX W sc b e2)(ho:vE W op o):SX W sc (rg o a b) (.BinOp e1 op e2 pos):=fun r d A fs env f ι H s k e h t=>by
 refine wpAny_BinOp (wpAny_mono (ha r d A fs env f ι H s _ e h t) (fun v s1 P=>?_) fun U U z=>z)
 obtain⟨ι1,H1,y,S1,E1,rv,t⟩:=P
 have h1:=h.next S1 E1
 refine wpAny_mono (hb r d A fs env f ι1 H1 s1 _ e h1 t) (fun w s2 P=>?_) fun U U z=>z.from E1
 obtain⟨ι2,H2,z,S2,E2,rw_,t⟩:=P
 exact wpAny_mono (ho A fs d ι2 H2 s2 v w y z k _ h.ar S2 (rv.ext E2) rw_ t) (fun u s3 P=>P.from (E1.trans E2)) fun U U z=>z
theorem zQ (a b:Int)(k:Int→Bool):D4 a b k=k (a+b):=by cases a<;>cases b<;>rfl
theorem z0 (a b:Int)(k:Int→Bool):FE a b k=k (a - b):=by
 cases a with
 | ofNat m =>
  cases b with
  | ofNat n=>exact congrArg k (Int.subNatNat_eq_coe)
  | negSucc n=>refine congrArg k ?_;show Int.ofNat (m+n+1)=_;simp only[Int.ofNat_eq_natCast];omega
 | negSucc m =>
  cases b with
  | ofNat n=>refine congrArg k ?_;show Int.negSucc (m+n)=_;simp only[Int.ofNat_eq_natCast];omega
  | negSucc n=>refine congrArg k ((Int.subNatNat_eq_coe).trans ?_);omega
theorem bU {fs ι H}(S:St W fs ι H s)(rv:RV W ι s.heap v x)(t:k x H=true):PX W fs noX ι s k v { s with toks:=tk }:=
 ⟨ι,H,x,S.toks tk,.of_keeps fun U U e=>e,rv,t⟩
theorem oB (l m:List Vl):gU l m=l++m:=by
 induction l with
 | nil=>rfl
 | cons a r ih=>exact congrArg (a :: ·) ih
theorem sR (v:Vl):∀ n,yY v n=List.replicate n v
 | 0=>rfl
 | n+1=>congrArg (v :: ·) (sR v n)
set_option tactic.hygienic true in
theorem pL:vE W .Add DX:=fun A fs d ι H s a b x y k E ar S ra rb t=>by
 cases x with
 | int i =>
  refine bC fun G=>?_;cases y<;>first | exact nf t | exact ns t | skip
  rename_i j
  obtain⟨t1,rfl⟩:=ra.inv;next=>obtain⟨t2,rfl⟩:=rb.inv;next =>
  have t:D4 i j (fun n=>k (.int n) H)=true:=t
  rw[zQ] at t
  apply G;exact P.add_int (bU S (.int _ _) t)
 | str c =>
  refine bC fun G=>?_;refine eE1 (fun c2=>aA2 fun z5q1 t=>?_) (aG (k:=fun t=>mkS (lP c t) H k) t);obtain rfl:=z5q1
  obtain⟨ln,t⟩:=ae t
  refine eE2 (fun U t1=>aA2 fun z7q2 h1=>?_) (ra.inv);obtain rfl:=z7q2;next=>refine eE2 (fun U t2=>aA2 fun z8q2 h2=>?_) (rb.inv);obtain rfl:=z8q2;next =>
  have hs:=h1.append h2 (bS ln)
  apply G;refine PyProof.Rows.add_str (fun t' tk=>bU S (.str _ hs) t) ?_
  have a1:=h1.len;have a2:=h2.len
  simp only[Array.length_toList] at a1 a2
  show Array.size _+Array.size _≤2 ^ 24
  omega
 | ref i =>
  refine bC fun G=>?_;refine eE1 (fun q=>aA2 fun hy t1=>?_) (br (k:=fun q=>aL H i fun x=>aL H q fun y=>(aW false (fun l=>(aW false (fun m=>mkL (gU l m) H k) y)) x)) t)
  subst hy
  refine eE1 (fun o1=>aA2 fun g1 t2=>?_) (af t1)
  refine eE1 (fun o2=>aA2 fun g2 t3=>?_) (af t2)
  cases o1<;>first | exact nf t3 | exact ns t3 | skip
  cases o2<;>first | exact nf t3 | exact ns t3 | skip
  rename_i l m
  have t4:mkL (gU l m) H k=true:=t3
  rw[oB] at t4
  refine eE1 (fun p=>aA3 fun ep z12q2 z12r=>?_) (S.get ra g1);obtain rfl:=z12q2;obtain⟨eq,ln,vs,n,g,r⟩:=z12r
  refine eE1 (fun p'=>aA3 fun ep' z13q2 z13r=>?_) (S.get rb g2);obtain rfl:=z13q2;obtain⟨eq',ln',vs',n',g',r'⟩:=z13r
  apply G;refine P.add_list g g' ?_ ?_
  ·have:=iT S (vs:=vs.toList++vs'.toList) (r.append r') t4 (tk:=s.toks) (dr:=s.drawn) (n:=0)
   rw[show(vs.toList++vs'.toList).toArray=vs++vs' by rw[← Array.toList_append,Array.toArray_toList]] at this
   exact this
  ·have a1:=r.length;have a2:=r'.length
   simp only[Array.length_toList] at a1 a2
   show _≤2 ^ 24
   omega
 | _=>(first | exact nf t | exact ns t | cases t)
set_option tactic.hygienic true in
theorem zr:vE W .Sub Gf:=fun A fs d ι H s a b x y k E ar S ra rb t=>by
 refine bC fun G=>?_;cases x<;>first | exact nf t | exact ns t | skip
 rename_i i
 cases y<;>first | exact nf t | exact ns t | skip
 rename_i j
 obtain⟨t1,rfl⟩:=ra.inv;next=>obtain⟨t2,rfl⟩:=rb.inv;next =>
 have t:FE i j (fun n=>k (.int n) H)=true:=t
 rw[z0] at t
 apply G;exact P.sub_int (bU S (.int _ _) t)
theorem cD {n:Nat}(h:n≤2 ^ 60):Builtin.Int.intBits (n:Int)≤64:=by
 unfold Builtin.Int.intBits
 by_cases e:n=0
 ·subst e;decide
 ·have e1:((n:Int) == 0)=false:=beq_eq_false_iff_ne.mpr (by omega)
  rw[e1]
  have:n.log2 < 61:=(Nat.log2_lt e).mpr (by omega)
  show(n:Int).natAbs.log2+1≤64
  rw[Int.natAbs_natCast];exact fS this (by simp +arith only)
theorem o6 (a:Nat):∀ {l:List Nat},(∀ z∈l,z≤4)→l.foldl (· * ·) a≤a * 4 ^ l.length
 | [],_=>by simp
 | z :: l,h=>by
  have h1:=h z (.head _)
  have ih:=o6 (a * z) (l:=l) fun y m=>h y (.tail _ m)
  simp only[List.foldl_cons,List.length_cons]
  refine Nat.le_trans ih ?_
  rw[Nat.pow_succ,Nat.mul_assoc,Nat.mul_comm (4 ^ l.length) 4]
  exact Nat.mul_le_mul_left a (Nat.mul_le_mul_right _ h1)
theorem y6 {W:Wd}{w n w2 n2 j:Nat}{x y:Vl}{p:Nat}(e2:cw W.bJ 0 w2 n2 j=some y)(hp:p=(W.bJ.take j).foldl (· * ·) 1)(hw:w=w2)(hn:n=n2) :
  ∃ z,y = .int (Int.ofNat z)∧cw W.bJ 3 w n (j+1)=some (.int (Int.ofNat (p * z)))∧p≤2 ^ 60:=by
 refine bC fun G=>?_;subst hw hn
 obtain⟨h1,h2,⟨h,_⟩| ⟨_,z,hz,rfl⟩⟩:=bB e2
 ·exact absurd h (by decide)
 ·apply G;refine⟨z,rfl,?_,?_⟩
  ·unfold cw
   have lt:=(List.getElem?_eq_some_iff.mp hz).1
   rw[if_pos ⟨h1,h2⟩,if_pos rfl,if_pos (by omega)]
   rw[List.take_add_one,hz,List.foldl_append,hp]
   rfl
  ·have:=o6 1 (l:=W.bJ.take j) fun y m=>(W.cY.1 y (List.mem_of_mem_take m)).2
   have l8:(W.bJ.take j).length≤8:=by
    have:=W.cY.2
    rw[List.length_take];omega
   have:4 ^ (W.bJ.take j).length≤4 ^ 8:=Nat.pow_le_pow_right (by decide) l8
   rw[hp]
   omega
set_option tactic.hygienic true in
theorem zh:vE W .Mult GK:=fun A fs d ι H s a b x y k E ar S ra rb t=>by
 refine bC fun G=>?_;cases x<;>first | exact nf t | exact ns t | skip
 ·rename_i i
  cases i with
  | negSucc m=>exact ft t
  | ofNat m =>
   cases y<;>first | exact nf t | exact ns t | skip
   ·rename_i i2
    cases i2 with
    | negSucc _=>exact ft t
    | ofNat n =>
    have t:(@Bool.rec (fun _=>Bool) false (k (.int (.ofNat (Nat.mul m n))) H) (Nat.ble (Nat.mul m n) 1152921504606846976))=true:=t
    refine bC fun G=>?_;obtain⟨le,t⟩:=ae t
    have le:m * n≤1152921504606846976:=bS le
    obtain⟨t1,rfl⟩:=ra.inv;next=>obtain⟨t2,rfl⟩:=rb.inv;next =>
    apply G;refine P.mul_int (bU S (x:=.int (.ofNat (m * n))) ?_ t) ?_
    ·have:Int.ofNat m * Int.ofNat n=Int.ofNat (m * n):=rfl
     rw[this];exact .int _ _
    ·by_cases h:m≤2 ^ 60
     ·exact .of_left (cD h)
     ·refine .of_right (cD (n:=n) ?_)
      have:n=0:=by
       cases n with
       | zero=>rfl
       | succ n=>exfalso;have:m * 1≤m * (n+1):=Nat.mul_le_mul_left m (by simp +arith only);omega
      exact fS (Nat.le_of_eq this) (by simp +arith only)
   ·rename_i t0 w n j
    have t:(@Bool.rec (fun _=>Bool) false (@Bool.rec (fun _=>Bool) false (@Bool.rec (fun _=>Bool) false (k (.sy 3 w n 1) H) (Nat.beq j 0)) (Nat.beq t0 0)) (Nat.beq m 1))=true:=t
    obtain⟨e1,ta⟩:=ae t
    obtain⟨e2,tb⟩:=ae ta
    obtain⟨e3,tc⟩:=ae tb
    have e1:=aD e1
    have e2:=aD e2
    have e3:=aD e3
    subst e1 e2 e3
    obtain⟨t1,rfl⟩:=ra.inv;next=>refine eE1 (fun _=>aA2 fun es r=>?_) (rb.inv);next =>
    refine eE1 (fun z=>aA3 fun z25q1 es' le=>?_) (y6 (x:=.none) (p:=1) es (by simp) rfl rfl);obtain rfl:=z25q1
    obtain⟨t2,rfl⟩:=r.inv;next =>
    apply G;exact P.mul_int (bU S (x:=.sy 3 w n 1) (.sy es' (by
     have:Int.ofNat 1 * Int.ofNat z=Int.ofNat (1 * z):=rfl
     rw[this];exact .int _ _)) tc) (.of_left (cD le))
 ·rename_i l
  cases l with
  | nil=>exact ft t
  | cons v r =>
   cases r with
   | cons _ _=>exact ft t
   | nil =>
    refine eE1 (fun n=>aA2 fun z27q1 t=>?_) (bG (k:=fun n=>(@Bool.rec (fun _=>Bool) false (k (.tup (yY v n)) H) (Nat.ble n 1000))) t);obtain rfl:=z27q1
    obtain⟨le,t⟩:=ae t
    have le:=bS le
    rw[sR] at t
    obtain⟨t2,rfl⟩:=rb.inv;next =>
    refine eE3 (fun _ _ _=>aA5 fun z30q3 g ln rv nown=>?_) (ra.inv);obtain rfl:=z30q3;apply G;next =>
     rename_i vs n0
     obtain⟨vl⟩:=vs
     cases rv with
     | cons r0 rn =>
      cases rn
      refine l4 (x:=n) g le (fun e=>?_) ?_
      ·subst e;exact⟨ι,H,_,S,.refl,.tup g ln (.cons r0 .nil) nown,t⟩
      ·exact nP S (RVs.replicate r0 n) (by unfold mkT small;rw[eJ,List.length_replicate,Nat.ble_eq_true_of_le le];exact t)
 ·rename_i t0 w n j
  cases y<;>first | exact nf t | exact ns t | skip
  rename_i t2 w2 n2 j2
  have t:(@Bool.rec (fun _=>Bool) false (@Bool.rec (fun _=>Bool) false (@Bool.rec (fun _=>Bool) false (k (.sy 3 w n (j+1)) H) (Nat.beq j j2)) (Nat.beq t2 0)) (Nat.beq t0 3))=true:=t
  obtain⟨e1,ta⟩:=ae t
  obtain⟨e2,tb⟩:=ae ta
  obtain⟨e3,tc⟩:=ae tb
  have e1:=aD e1
  have e2:=aD e2
  have e3:=aD e3
  subst e1 e2 e3
  refine eE1 (fun _=>aA2 fun es r=>?_) (ra.inv);next=>refine eE1 (fun _=>aA2 fun es' r'=>?_) (rb.inv);next =>
  obtain⟨h1,h2,⟨_,_,rfl⟩| ⟨h,_⟩⟩:=bB es
  ·refine aA3 (fun h3 h4 _=>?_) (bB es')
   refine eE1 (fun z=>aA3 fun z39q1 es3 le=>?_) (y6 (x:=.none) (w:=w) (n:=n) es' rfl (h2.trans h4.symm) (h1.trans h3.symm));obtain rfl:=z39q1
   obtain⟨t1,rfl⟩:=r.inv;next=>obtain⟨t2,rfl⟩:=r'.inv;next =>
   apply G;exact P.mul_int (bU S (x:=.sy 3 w n (j+1)) (.sy es3 (.int _ _)) tc) (.of_left (cD le))
  ·apply G;omega
end
theorem aO (slice:Expr)(o i:Value):∃ ops,subscripted slice false o i=operate ops (getItem o i):=by
 cases slice with
 | Slice a b c p=>cases c<;>exact⟨_,rfl⟩
 | _=>exact⟨_,rfl⟩
theorem eK (l:List Vl):fU l=l.reverse:=by
 have:∀ (l acc:List Vl),(@List.rec Vl (fun U=>List Vl→List Vl) (fun acc=>acc) (fun a U ih acc=>ih (a :: acc)) l acc)=l.reverse++acc:=by
  intro l;induction l with
  | nil=>intro acc;rfl
  | cons a r ih=>intro acc;refine(ih (a :: acc)).trans ?_;simp
 exact(this l []).trans (List.append_nil _)
set_option tactic.hygienic true in
theorem jh (e:rV l i k=true):∃ (z:Int)(j:Nat)(x:Vl),i = .int z∧l[j]? = some x∧k x=true∧seqIndex? z l.length=some j∧((0≤z∧z.toNat=j)∨(z < 0∧(z+l.length).toNat=j))∧-(l.length:Int)≤z∧z < l.length:=by
 cases i<;>first | exact nf e | exact ns e | skip
 rename_i z
 cases z with
 | ofNat j =>
  refine eE1 (fun x=>aA2 fun g t=>?_) (cC (show jZ l j k=true from e))
  have lt:j < l.length:=(List.getElem?_eq_some_iff.mp g).1
  refine⟨_,j,x,rfl,g,t,?_,.inl ⟨Int.natCast_nonneg j,rfl⟩,Int.le_trans (Int.neg_nonpos_of_nonneg (Int.natCast_nonneg _)) (Int.natCast_nonneg j),Int.ofNat_lt.mpr lt⟩
  have:=seqIndex_at (i:=(j:Int)) (n:=l.length) (Int.natCast_nonneg j) (Int.ofNat_lt.mpr lt)
  exact this
 | negSucc j =>
  refine eE1 (fun x=>aA2 fun g t=>?_) (cC (show jZ (fU l) j k=true from e))
  rw[eK] at g
  have lt:j < l.length:=by simpa using (List.getElem?_eq_some_iff.mp g).1
  rw[List.getElem?_reverse lt] at g
  have e1:(Int.negSucc j+l.length).toNat=l.length - 1 - j:=by
   show(Int.subNatNat l.length (j+1)).toNat=_
   rw[Int.subNatNat_of_le lt,Nat.sub_sub,Nat.add_comm 1 j];rfl
  refine⟨_,l.length - 1 - j,x,rfl,g,t,?_,.inr ⟨Int.negSucc_lt_zero j,e1⟩,Int.neg_le_neg (Int.ofNat_le.mpr lt),Int.lt_of_lt_of_le (Int.negSucc_lt_zero j) (Int.natCast_nonneg _)⟩
  have:=seqIndex_back (i:=Int.negSucc j) (n:=l.length) (Int.negSucc_lt_zero j) (by show(0:Int)≤Int.subNatNat l.length (j+1);rw[Int.subNatNat_of_le lt];exact Int.natCast_nonneg _)
  rw[this,e1]
theorem EA (h:ag s c)(lt:j+1≤Internal.ee c):∃ x,(seqIndex? (j:Int) s.length).bind (s.cps[·]?)=some x∧ag ⟨#[x]⟩ (FI c j):=by
 rw[h.ee] at lt
 have key:∀ (l:List Nat),(∀ x∈l,0 < x∧x < 128)→∀ j x,l[j]? = some x→(enc l / 128 ^ j) % 128=x:=by
  intro l;induction l with
  | nil=>intro _ j x e;simp at e
  | cons a r ih =>
   intro ok j x e
   have h1:=ok a (.head _)
   cases j with
   | zero=>simp only[List.getElem?_cons_zero,Option.some.injEq] at e;subst e;simp only[enc,Nat.pow_zero,Nat.div_one];exact hG h1.2
   | succ j =>
    simp only[List.getElem?_cons_succ] at e
    have:=ih (fun x hx=>ok x (.tail _ hx)) j x e
    simp only[enc,Nat.pow_succ]
    rw[Nat.mul_comm (128 ^ j) 128,← Nat.div_div_eq_div_mul,gR h1.2]
    exact this
 have lt':j < s.cps.toList.length:=lt
 have g:s.cps.toList[j]? = some s.cps.toList[j]:=List.getElem?_eq_getElem lt'
 have m:=h.ok _ (List.getElem_mem lt')
 refine⟨s.cps.toList[j],?_,?_,?_,?_⟩
 ·have e1:s.length=s.cps.toList.length:=by simp[Str.length]
  rw[seqIndex_at (Int.natCast_nonneg _) (by rw[e1];exact Int.ofNat_lt.mpr lt')]
  show s.cps[j]? = _
  rw[← Array.getElem?_toList];exact g
 ·show enc [s.cps.toList[j]]=_
  have:=key _ h.ok j _ g
  rw[h.code] at this
  show s.cps.toList[j]+128 * 0=(c / 128 ^ j) % 128
  rw[this];simp +arith only
 ·intro x hx;simp only[List.mem_singleton] at hx;subst hx;exact m
 ·simp
section
variable {W:Wd}{sc:Sc}
theorem aE {h:Heap}{l:Addr}{items:Array Value}{n:Nat}(g:IsL h l items n):h.IsList l items:=⟨_,g,rfl,n,rfl⟩
theorem zy {h:Heap}{l:Addr}{items:Array Value}{n:Nat}(g:IsT h l items n):IsTup h l items:=⟨_,g,rfl,n,rfl⟩
theorem w7 {A fs d ι H}(ar:Ar A fs d)(S:St W fs ι H s)(ro:RV W ι s.heap o y)(ri:RV W ι s.heap i z)
  (t:xj H y z (fun u=>k u H)=true):wpAny (model W.prog W.w) A (subscriptTail value slice o i) (PX W fs noX ι s k) E s:=by
 obtain⟨ops,hs⟩:=aO slice o i
 cases y with
 | str c =>
  refine bC fun G=>?_;refine eE1 (fun j=>aA2 fun z4q1 t=>?_) (bG (k:=fun j=>(@Bool.rec (fun U=>Bool) false (k (.str (FI c j)) H) (Nat.ble (Nat.succ j) (Internal.ee c)))) t);obtain rfl:=z4q1
  obtain⟨le,t⟩:=ae t
  refine eE2 (fun U t1=>aA2 fun z6q2 h1=>?_) (ro.inv);obtain rfl:=z6q2;next=>obtain⟨t2,rfl⟩:=ri.inv;next =>
  refine eE1 (fun x=>aA2 fun e1 e2=>?_) (EA h1 (bS le))
  have lt:=bS le
  rw[h1.ee] at lt
  have:=h1.len
  apply G;refine tail_any (s:=s) rfl F.slot_str_getitem.lookup (P.getItem_str (by simp;omega) e1 (bU S (.str _ e2) t)) hs
 | tup l =>
  refine bC fun G=>?_;obtain⟨iz,j,x,rfl,g,t,sq,_,lo,hi⟩:=jh t
  obtain⟨t2,rfl⟩:=ri.inv;next =>
  obtain⟨_,_,_,rfl,gt,ln,rv,_⟩:=ro.inv;apply G;next =>
   obtain⟨v,gv,rvx⟩:=rv.get g
   have e:=rv.length
   simp only[Array.length_toList] at e
   refine tail_any (s:=s) ⟨_,gt,rfl⟩ F.slot_tuple_getitem.lookup (P.getItem_tuple gt (by omega) (by omega) (k:=j) (by rw[e];exact sq) (by rw[← Array.getElem?_toList];exact gv) ⟨ι,H,x,S,.refl,rvx,t⟩) hs
 | ref r =>
  refine eE1 (fun ob=>aA2 fun go t=>?_) (af t)
  cases ob with
  | list l =>
   refine bC fun G=>?_;obtain⟨iz,j,x,rfl,g,t,sq,cs,lo,hi⟩:=jh t
   obtain⟨t2,rfl⟩:=ri.inv;next =>
   obtain⟨p,ep,rfl,eq,ln,vs,n,gl,rv⟩:=S.get ro go
   obtain⟨v,gv,rvx⟩:=rv.get g
   have e:=rv.length
   simp only[Array.length_toList] at e
   rw[Array.getElem?_toList] at gv
   rcases cs with ⟨c1,c2⟩| ⟨c1,c2⟩
   ·apply G;exact tail_any (aE gl).typeIs F.slot_list_getitem.lookup (wpAny_getItem_list (aE gl) c1 (by omega) (by rw[c2];exact gv) ⟨ι,H,x,S,.refl,rvx,t⟩) hs
   ·apply G;exact tail_any (aE gl).typeIs F.slot_list_getitem.lookup (wpAny_getItem_list_neg (aE gl) c1 (by omega) (by omega) (by rw[e,c2];exact gv) ⟨ι,H,x,S,.refl,rvx,t⟩) hs
  | dict l =>
   refine bC fun G=>?_;refine eE1 (fun c=>aA2 fun hz t2=>?_) (aG (k:=fun s=>cI l s false fun u=>k u H) t)
   subst hz
   refine eE2 (fun U t1=>aA2 fun z19q2 h1=>?_) (ri.inv);obtain rfl:=z19q2;next =>
   refine eE1 (fun p=>aA3 fun ep z20q2 z20r=>?_) (S.get ro go);obtain rfl:=z20q2;obtain⟨eq,ln,kvs,gd,rk⟩:=z20r
   refine oO (aA2 fun U z=>?_) (eE1 fun v=>aA2 fun e t3=>?_) (aV t2)
   ·exact ft z
   ·refine oO (aA2 fun q U=>?_) (eE2 fun x w=>aA3 fun q1 q2 rv=>?_) (rk.at h1)
    ·rw[q] at e;exact zns e
    ·rw[q1] at e;replace e:=ab e;subst e
     apply G;exact tail_any gd.typeIs F.slot_dict_getitem.lookup (wpAny_getItem_of (knd:=W.sk) (dO _ t1) gd.mapOf q2 (bU S rv t3)) hs
  | _=>(first | exact nf t | exact ns t | cases t)
 | _=>(first | exact nf t | exact ns t | cases t)
theorem DD {a b e1 e2 pos}(ha:SX W sc a e1)(hb:SX W sc b e2):SX W sc (Gl a b) (.Subscript e1 e2 pos):=fun r d A fs env f ι H s k e h t=>by
 refine Subscript_ (wpAny_mono (ha r d A fs env f ι H s _ e h t) (fun v s1 P=>?_) fun U U z=>z)
 obtain⟨ι1,H1,y,S1,E1,rv,t⟩:=P
 have h1:=h.next S1 E1
 refine wpAny_mono (hb r d A fs env f ι1 H1 s1 _ e h1 t) (fun w s2 P=>?_) fun U U z=>z.from E1
 obtain⟨ι2,H2,z,S2,E2,rw_,t⟩:=P
 exact wpAny_mono (w7 h.ar S2 (rv.ext E2) rw_ t) (fun u s3 P=>P.from (E1.trans E2)) fun U U z=>z
end
theorem qQ (n:Nat):Builtin.Slice.slicePlaces ((n:Int) - 1) (-1) (-1)=n:=by
 unfold Builtin.Slice.slicePlaces
 have h1:¬ ((-1:Int) > 0):=by omega
 rw[if_neg h1]
 by_cases h:((n:Int) - 1 > -1)
 ·rw[if_pos h,show(- -1:Int)=1 by decide,Int.ediv_one];omega
 ·rw[if_neg h];omega
theorem qj {α β : Type}{f g : α→Option β}:∀ {l:List α},(∀ x∈l,f x=g x)→l.filterMap f=l.filterMap g
 | [],_=>rfl
 | a :: r,h=>by
  simp only[List.filterMap_cons,h a (.head _),qj fun x hx=>h x (.tail _ hx)]
theorem wi (xs:Array Value):((List.range xs.size).filterMap fun(k:Nat)=>xs[((xs.size:Int) - 1+(k:Int) * (-1)).toNat]?).toArray=xs.toList.reverse.toArray:=by
 have e:(List.range xs.size).filterMap (fun(k:Nat)=>xs[((xs.size:Int) - 1+(k:Int) * (-1)).toNat]?)=((List.range xs.size).map (fun k=>xs.size - 1 - k)).filterMap (xs[·]?):=by
  rw[List.filterMap_map]
  refine qj fun k hk=>?_
  have:=List.mem_range.mp hk
  show xs[((xs.size:Int) - 1+(k:Int) * (-1)).toNat]? = xs[xs.size - 1 - k]?
  have z:(xs.size:Int) - 1+(k:Int) * (-1)=((xs.size - 1 - k:Nat):Int):=by
   rw[Int.ofNat_sub (Nat.le_sub_one_of_lt this),Int.ofNat_sub (Nat.lt_of_le_of_lt (Nat.zero_le _) this),Int.mul_neg,Int.mul_one];rfl
  rw[z];rfl
 rw[e,krv_range,List.filterMap_reverse,krv_all]
section
variable {prog:Program}{w:World}{A:Around}{E:Value→Shared→Prop}{s:Shared}
theorem iQ {sl:Addr}{n:Nat}{u:Tok}{Q:Int × Int × Nat→Shared→Prop}(hs:s.heap.IsSliceOf sl .none .none (.int (-1) u))(h:Q ((n:Int) - 1,-1,n) s) :
  wpAny (model prog w) A (Builtin.Slice.sliceApplied (.ref sl) (pure (n:Int))) Q E s:=by
 refine eE1 (fun os=>aA3 fun hos hcs hds=>?_) (id hs)
 unfold Builtin.Slice.sliceApplied Builtin.Slice.sliceFields
 refine wpAny_bind (wpAny_bind (wpAny_field hos hds (x:=.none) rfl (wpAny_bind (wpAny_field hos hds (x:=.none) rfl (wpAny_bind (wpAny_field hos hds (x:=.int (-1) u) rfl (wpAny_pure ?_)))))))
 refine wpAny_bind (slicePart_int ?_)
 show wpAny _ _ (if((-1:Int) == 0)=true then _ else _) _ _ s
 rw[if_neg (by decide)]
 refine wpAny_bind (slicePart_none (wpAny_bind (slicePart_none (wpAny_bind (wpAny_pure ?_)))))
 show wpAny _ _ (pure ((n:Int) - 1,(-1:Int),Builtin.Slice.slicePlaces ((n:Int) - 1) (-1) (-1))) _ _ s
 rw[qQ]
 exact wpAny_pure h
theorem g8 {t sl:Addr}{items:Array Value}{u:Tok}{Q:Value→Shared→Prop}(ht:IsTup s.heap t items)(hs:s.heap.IsSliceOf sl .none .none (.int (-1) u))
  (h:Q (.ref s.heap.objs.size) { s with heap:=s.heap.push { cls:=.type "tuple",data:=.seq items.toList.reverse.toArray } })
  (hsz:items.size≤sizeLine):wpAny (model prog w) A (getItem (.ref t) (.ref sl)) Q E s:=by
 have hdrop:sizeOk (.seq items.toList.reverse.toArray):=by
  show items.toList.reverse.toArray.size≤sizeLine
  rw[List.size_toArray,List.length_reverse,Array.length_toList]
  omega
 refine eE1 (fun os=>aA3 fun hos hcs hds=>?_) (id hs)
 have hTs:s.TypeIs (.ref sl) "slice":=⟨os,hos,hcs⟩
 unfold getItem
 try with_reducible refine wpAny_holding ?_
 first | refine wpAny_bind (wpAny_pure ?_)| skip
 refine wpAny_bind (wpAny_sequenceKey ht.typeIs (by decide) ?_)
 refine wpAny_bind (wpAny_callSpecial?_slot (name:=Str.ofString "__getitem__") ht.typeIs slot_tuple_getitem
  (wpAny_call_entry slot_tuple_getitem ht.typeIs entry_tuple_getitem ?_ (args_tuple_getitem _ _)))
 show wpAny _ _ (Builtin.Tuple.tupleItemsOf (.ref t) >>= _) _ _ s
 refine wpAny_bind (tupleItemsOf_ ht ?_)
 refine wpAny_bind (wpAny_typeOf hTs ?_)
 rw[if_pos (by decide)]
 refine wpAny_bind (iQ hs ?_)
 have hno:¬ (((items.size:Int) - 1 == 0&&(-1:Int) == 1&&items.size == items.size)=true):=by simp
 show wpAny _ _ (if((items.size:Int) - 1 == 0&&(-1:Int) == 1&&items.size == items.size)=true then _ else _) _ _ s
 rw[if_neg hno,wi items]
 first
  | exact wpAny_bind (m:=Builtin.Tuple.tupleExact _) (wpAny_newObj_type (wpAny_pure ⟨_,rfl,wpAny_pure h⟩) hdrop)
  | exact wpAny_bind (m:=Builtin.Tuple.tupleExact _) (wpAny_newObj_type (wpAny_bind (wpAny_pure (wpAny_pure ⟨_,rfl,wpAny_pure h⟩))) hdrop)
  | exact wpAny_bind (wpAny_bind (m:=Builtin.Tuple.tupleExact _) (wpAny_newObj_type (wpAny_pure (wpAny_pure ⟨_,rfl,wpAny_pure h⟩)) hdrop))
  | exact wpAny_bind (wpAny_bind (m:=Builtin.Tuple.tupleExact _) (wpAny_newObj_type (wpAny_pure ⟨_,rfl,wpAny_pure h⟩) hdrop))
end
section
variable {W:Wd}{sc:Sc}
set_option tactic.hygienic true in
theorem qS (t:CQ H v k=true):(∃ l,v = .tup l∧mkT l.reverse H k=true)∨∃ i l,v = .ref i∧H.t.get i=some (.list l)∧mkL l.reverse H k=true:=by
 refine bC fun G=>?_;cases v<;>first | exact nf t | exact ns t | skip
 ·rename_i l
  have t:mkT (fU l) H k=true:=t
  rw[eK] at t
  apply G;exact .inl ⟨l,rfl,t⟩
 ·rename_i i
  refine eE1 (fun o=>aA2 fun go t=>?_) (af t)
  cases o<;>first | exact nf t | exact ns t | skip
  rename_i l
  have t:mkL (fU l) H k=true:=t
  rw[eK] at t
  apply G;exact .inr ⟨i,l,rfl,go,t⟩
theorem DR {a e1 pos p p1 p2 k1}(ha:SX W sc a e1):SX W sc (Cg a) (.Subscript e1 (.Slice none none (some (.UnaryOp .USub (.Constant (.int 1) k1 p1) p2)) p) pos):=fun r d A fs env f ι H s k e h t=>by
 refine Subscript_ (wpAny_mono (ha r d A fs env f ι H s _ e h t) (fun v s1 P=>?_) fun U U z=>z)
 refine bC fun G=>?_;obtain⟨ι1,H1,y,S1,E1,rv,t⟩:=P
 apply G;refine wpAny_Slice (wpAny_evalPart_none (wpAny_evalPart_none (wpAny_evalPart_some (wpAny_UnaryOp (wpAny_Constant_int (P.neg_int ?_))))))
 refine bC fun G=>?_;obtain⟨ops,hs⟩:=aO (.Slice none none (some (.UnaryOp .USub (.Constant (.int 1) k1 p1) p2)) p) v (.ref s1.heap.objs.size)
 have K:=aj s1.heap { cls:=.type "slice",data:=.fields #[.none,.none,.int (-1) (s1.toks+1)] }
 have S2:=S1.keeps K (tk:=s1.toks+1+1) (dr:=s1.drawn)
 have E2:Ext W noX ι1 s1.heap ι1 (s1.heap.push { cls:=.type "slice",data:=.fields #[.none,.none,.int (-1) (s1.toks+1)] }):=.of_keeps K
 have hsl:=Heap.IsSliceOf.new s1.heap .none .none (.int (-1) (s1.toks+1))
 have rv2:=rv.ext E2
 rcases qS t with ⟨l,rfl,t'⟩| ⟨i,l,rfl,go,t'⟩
 ·refine eE3 (fun U U U=>aA5 fun z6q3 g ln rvs U=>?_) (rv2.inv);obtain rfl:=z6q3;apply G;next =>
   have e:=rvs.length
   simp only[Array.length_toList] at e
   exact tail_any (s:=⟨_,_,_,_,_⟩) ⟨_,g,rfl⟩ F.slot_tuple_getitem.lookup (g8 (zy g) hsl ((nP S2 rvs.reverse t').from (E1.trans E2)) (by unfold sizeLine;omega)) hs
 ·refine eE1 (fun p=>aA3 fun ep z7q2 z7r=>?_) (S2.get rv2 go);obtain rfl:=z7q2;obtain⟨eq,ln,vs,n,g,rvs⟩:=z7r
  have e:=rvs.length
  simp only[Array.length_toList] at e
  apply G;refine tail_any (aE g).typeIs F.slot_list_getitem.lookup (wpAny_getItem_list_slice (aE g) hsl .none .none (.int (-1) _) (by decide) ?_ (by unfold sizeLine;omega)) hs
  rw[krv_pick]
  exact(iT S2 rvs.reverse t').from (E1.trans E2)
theorem qo:∀ (l:List Vl)(n:Nat),xO l n=l.take n
 | [],n=>by simp[xO]
 | a :: r,0=>rfl
 | a :: r,n+1=>congrArg (a :: ·) (qo r n)
theorem iw:∀ (l:List Vl)(n:Nat),mj l n=l.drop n
 | [],n=>by simp[mj]
 | a :: r,0=>rfl
 | a :: r,n+1=>iw r n
set_option tactic.hygienic true in
theorem jM (t:y4 g H v n k=true):∃ (i:Nat)(l:List Vl)(m:Nat),v = .ref i∧n = .int (m:Int)∧H.t.get i=some (.list l)∧mkL (g l m) H k=true:=by
 refine bC fun G=>?_;cases v<;>first | exact nf t | exact ns t | skip
 rename_i i
 refine eE1 (fun o=>aA2 fun go t=>?_) (af t)
 cases o<;>first | exact nf t | exact ns t | skip
 rename_i l
 refine eE1 (fun m=>aA2 fun z9q1 t=>?_) (bG (k:=fun n=>mkL (g l n) H k) t);obtain rfl:=z9q1
 apply G;exact⟨i,l,m,rfl,rfl,go,t⟩
theorem vu (items:Array Value)(n:Nat):slicePick items none (some (n:Int)) none=(items.toList.take n).toArray:=by
 rw[kms_pick_eq]
 unfold kms_pick kms_lo kms_hi
 have h:¬ ((n:Int) < 0):=by omega
 simp only[h,if_false,List.drop_zero,Int.toNat_natCast,Nat.sub_zero]
 rw[kmk_take_min]
theorem xA (items:Array Value)(n:Nat):slicePick items (some (n:Int)) none none=(items.toList.drop n).toArray:=by
 rw[kms_pick_eq]
 unfold kms_pick kms_lo kms_hi
 have h:¬ ((n:Int) < 0):=by omega
 simp only[h,if_false,Int.toNat_natCast]
 rw[kmk_drop_min,List.take_of_length_le (by simp;omega)]
theorem AL {a b e1 e2 pos p}(ha:SX W sc a e1)(hb:SX W sc b e2):SX W sc (CO a b) (.Subscript e1 (.Slice none (some e2) none p) pos):=fun r d A fs env f ι H s k e h t=>by
 refine Subscript_ (wpAny_mono (ha r d A fs env f ι H s _ e h t) (fun v s1 P=>?_) fun U U z=>z)
 obtain⟨ι1,H1,y,S1,E1,rv,t⟩:=P
 have h1:=h.next S1 E1
 refine wpAny_Slice (wpAny_evalPart_none (wpAny_evalPart_some (wpAny_mono (hb r d A fs env f ι1 H1 s1 _ e h1 t) (fun w s2 P=>?_) fun U U z=>z.from E1)))
 obtain⟨ι2,H2,z,S2,E2,rw_,t⟩:=P
 refine wpAny_evalPart_none ?_
 obtain⟨ops,hs⟩:=aO (.Slice none (some e2) none p) v (.ref s2.heap.objs.size)
 refine eE3 (fun i l m=>aA4 fun z13q3 z13q4 go t'=>?_) (jM t);obtain rfl:=z13q3;obtain rfl:=z13q4
 rw[qo] at t'
 obtain⟨t2,rfl⟩:=rw_.inv
 have K:=aj s2.heap { cls:=.type "slice",data:=.fields #[.none,.int (m:Int) t2,.none] }
 have S3:=S2.keeps K (tk:=s2.toks) (dr:=s2.drawn)
 have E3:=(E1.trans E2).trans (.of_keeps K)
 refine eE1 (fun p=>aA3 fun ep z14q2 z14r=>?_) (S3.get ((rv.ext E2).ext (.of_keeps (X:=noX) K)) go);obtain rfl:=z14q2;obtain⟨eq,ln,vs,n,g,rvs⟩:=z14r
 have e:=rvs.length
 simp only[Array.length_toList] at e
 refine tail_any (aE g).typeIs F.slot_list_getitem.lookup (wpAny_getItem_list_slice (aE g) (Heap.IsSliceOf.new s2.heap _ _ _) .none (.int _ _) .none (by decide) ?_ (by unfold sizeLine;omega)) hs
 rw[vu]
 exact(iT S3 (rvs.take m) t').from E3
theorem Di {a b e1 e2 pos p}(ha:SX W sc a e1)(hb:SX W sc b e2):SX W sc (Gq a b) (.Subscript e1 (.Slice (some e2) none none p) pos):=fun r d A fs env f ι H s k e h t=>by
 refine Subscript_ (wpAny_mono (ha r d A fs env f ι H s _ e h t) (fun v s1 P=>?_) fun U U z=>z)
 obtain⟨ι1,H1,y,S1,E1,rv,t⟩:=P
 have h1:=h.next S1 E1
 refine wpAny_Slice (wpAny_evalPart_some (wpAny_mono (hb r d A fs env f ι1 H1 s1 _ e h1 t) (fun w s2 P=>?_) fun U U z=>z.from E1))
 obtain⟨ι2,H2,z,S2,E2,rw_,t⟩:=P
 refine wpAny_evalPart_none (wpAny_evalPart_none ?_)
 obtain⟨ops,hs⟩:=aO (.Slice (some e2) none none p) v (.ref s2.heap.objs.size)
 refine eE3 (fun i l m=>aA4 fun z18q3 z18q4 go t'=>?_) (jM t);obtain rfl:=z18q3;obtain rfl:=z18q4
 rw[iw] at t'
 obtain⟨t2,rfl⟩:=rw_.inv
 have K:=aj s2.heap { cls:=.type "slice",data:=.fields #[.int (m:Int) t2,.none,.none] }
 have S3:=S2.keeps K (tk:=s2.toks) (dr:=s2.drawn)
 have E3:=(E1.trans E2).trans (.of_keeps K)
 refine eE1 (fun p=>aA3 fun ep z19q2 z19r=>?_) (S3.get ((rv.ext E2).ext (.of_keeps (X:=noX) K)) go);obtain rfl:=z19q2;obtain⟨eq,ln,vs,n,g,rvs⟩:=z19r
 have e:=rvs.length
 simp only[Array.length_toList] at e
 refine tail_any (aE g).typeIs F.slot_list_getitem.lookup (wpAny_getItem_list_slice (aE g) (Heap.IsSliceOf.new s2.heap _ _ _) (.int _ _) .none .none (by decide) ?_ (by unfold sizeLine;omega)) hs
 rw[xA]
 exact(iT S3 (rvs.drop m) t').from E3
theorem mQ (k:Nat→Bool)(c:Nat):∀ d:List (Nat × Nat),pB d c k=match eS d c with | none=>false | some v=>k v
 | []=>rfl
 | (a,w) :: r=>by
  show(@Bool.rec (fun U=>Bool) (pB r c k) (k w) (Nat.beq a c))=_
  unfold eS
  simp only[List.find?_cons]
  cases Nat.beq a c
  ·exact mQ k c r
  ·rfl
theorem du (e:jK C c k=true):∃ i x ms sup,C.get c=some (.mk i x ms sup)∧k i x ms sup=true:=by
 have e:(@Option.rec Kl (fun U=>Bool) (false) (fun x=>@Kl.rec (fun U=>Bool) k x) (Tri.get C c))=true:=e
 cases h:Tri.get C c with
 | none=>rw[h] at e;(first | exact nf e | exact ns e | cases e)
 | some kl =>
  rw[h] at e
  obtain⟨i,x,ms,sup⟩:=kl
  exact⟨i,x,ms,sup,rfl,e⟩
structure fi (W:Wd)(C:Tri Kl)(name:Str)(a:Nat):Prop where
 is:ag name a
 plain:copiedNames.contains name=false
 at_:∀ c Ca i ms sup,W.cls c=some Ca→C.get c=some (.mk i false ms sup)→plainGet W.K Ca name=true∧hasDictIn W.K Ca=true ∧
  match eS ms a with
  | none=>findIn W.K (.ref Ca) name=some none
  | some f=>∃ fa,findIn W.K (.ref Ca) name=some (some (.ref fa))∧W.fn f=some fa∧isFn W.K (.ref fa)=true∧specialIn W.K (.ref fa) "__get__" = some (some (.builtin "function.__get__"))∧takesIn W.K (.ref fa)=some false
theorem qR (r:Pairs W.sk es kvs):getL s es=some (valueAt kvs s):=by
 induction r with
 | nil=>rfl
 | @cons e kv es kvs h1 h2 r ih =>
  obtain⟨t,w⟩:=kv
  obtain⟨tk,h1⟩:=Value.isStrOf_shape h1
  unfold getL at ih ⊢
  rw[ix]
  have hk:e.key.isStr s=decide (t=s):=by
   rw[h1]
   show(t == s)=_
   exact(Bool.beq_eq_decide_eq t s)
  simp only[List.find?_cons,List.any_cons,hk]
  by_cases q:t=s
  ·rw[if_pos q,decide_eq_true q];simp only[if_true];rw[h2]
  ·rw[if_neg q,decide_eq_false q];simp only[]
   have:e.refKey=false:=by unfold DictEntry.refKey;rw[h1]
   simp only[this,Bool.false_or];exact ih
theorem i6 (g:h.get? x=some o)(c:o.cls = .ref C)(d:o.dict=some D)(n:notCls o=true)(gd:h.DictOf W.sk D kvs) :
  ∃ es m,InstAt h x o C (some (dictOf es m))∧∀ s,getL s es=some (valueAt kvs s):=by
 revert gd;refine eE3 fun od es ep=>aA6 fun g2 ex dd U pr U=>?_
 refine⟨es.toList,ep,⟨g,c,n,?_⟩,fun s=>qR pr⟩
 rw[d]
 show h.get? D=some (dictOf es.toList ep)
 rw[g2]
 revert ex;refine aA3 fun e1 e2 e3=>?_
 obtain⟨oc,odi,oda,osl⟩:=od
 simp only at e1 e2 e3 dd
 subst e1 e2 e3 dd
 rfl
end
section
variable {W:Wd}{sc:Sc}
theorem rE (e:btV n=some v):handedIn v=true:=m9 (p:=handedIn) (by decide) e
theorem RV.handed (r:RV W ι h v x):handedIn v=true :=
 RV.rec (motive_1:=fun v U U=>handedIn v=true) (motive_2:=fun U U U=>True) rfl (fun U=>rfl) (fun U U=>rfl) (fun U U=>rfl) (fun U U=>rfl) (fun U U U U U=>rfl) (fun U=>rfl) (fun U=>rfl) (fun U=>rfl) rE (fun U=>rfl) (fun U=>rfl) (fun U U ih=>ih) trivial (fun U U U U=>trivial) r
set_option tactic.hygienic true in
theorem oW (t:sr C v a H k=true):∃ i c l i0 ms sup,v = .ref i∧H.t.get i=some (.inst c l)∧C.get c=some (.mk i0 false ms sup) ∧
  ((∃ x,dl l a=some x∧k x=true)∨(dl l a=none∧∃ f,eS ms a=some f∧k .any=true)):=by
 refine bC fun G=>?_;cases v<;>first | exact nf t | exact ns t | skip
 rename_i i
 refine eE1 (fun o=>aA2 fun go t=>?_) (af t)
 cases o<;>first | exact nf t | exact ns t | skip
 rename_i c l
 refine eE4 (fun i0 x ms sup=>aA2 fun g t=>?_) (du (k:=fun U x ms U=>@Bool.rec (fun U=>Bool) (cI l a (pB ms a fun U=>k .any) k) false x) t)
 cases x with
 | true=>exact ft t
 | false =>
  apply G;refine⟨i,c,l,i0,ms,sup,rfl,go,g,?_⟩
  refine bC fun G=>?_;refine oO (aA2 fun e t=>?_) (eE1 fun x=>aA2 fun e t=>?_) (aV (show cI l a (pB ms a fun U=>k .any) k=true from t))
  ·apply G;right
   refine⟨e,?_⟩
   rw[mQ] at t
   cases q:eS ms a with
   | none=>rw[q] at t;(first | exact nf t | exact ns t | cases t)
   | some f=>rw[q] at t;exact⟨f,rfl,t⟩
  ·apply G;exact .inl ⟨x,e,t⟩
theorem i8 {K:Frag}{C:Addr}{name:Str}{od:Obj}{v:Value}(hh:hasDictIn K C=true)
  (ha:findIn K (.ref C) name=some none∨∃ f g,findIn K (.ref C) name=some (some f)∧specialIn K f "__get__" = some g∧takesIn K f=some false)(hl:lookIn name od=some (some v)) :
  findObj K C (some od) name=some (.value v):=by
 refine eE1 (fun cd=>aA2 fun hc' hd=>?_) (any_some hh)
 unfold findObj
 have ho:PySem.W.ownOf cd (some od) name=some (some v):=by unfold PySem.W.ownOf;rw[if_pos hd];exact hl
 rw[hc',Option.bind_some]
 revert ha;refine oO (fun ha=>?_) (eE2 fun f g=>aA3 fun ha hg ht=>?_)
 ·rw[ha,Option.bind_some]
  simp only[Option.bind_some,ho]
 ·rw[ha,Option.bind_some]
  cases g with
  | none=>simp only[hg,Option.bind_some,ho]
  | some g=>simp only[hg,ht,Option.bind_some,ho]
theorem wy {C:Tri Kl}{name:Str}{a:Nat}(ok:fi W C name a) {A fs d ι H}{s:Shared}{o:Value}{y:Vl}{k:KV}{E:Value→Shared→Prop}(ar:Ar A fs d)(S:St W fs ι H s)(ro:RV W ι s.heap o y)
  (t:sr C y a H (fun w=>k w H)=true):wpAny (model W.prog W.w) A (getAttr o name true) (PX W fs noX ι s k) E s:=by
 refine bC fun G=>?_;refine eE6 (fun i c l i0 ms sup=>aA4 fun hy go hkl t'=>?_) (oW t)
 subst hy;clear t
 refine eE1 (fun p=>aA3 fun ep z5q2 z5r=>?_) (S.get ro go);obtain rfl:=z5q2;obtain⟨ln,ne,Ca,ob,kvs,hC,g,hc,hd,hn,gd,rk⟩:=z5r
 refine eE2 (fun es m=>aA2 fun I gl=>?_) (i6 g hc hd hn.1 gd)
 refine aA3 (fun pg hh hm=>?_) (ok.at_ c Ca i0 ms sup hC hkl)
 revert t';refine oO (eE1 fun x=>aA2 fun e t=>?_) (aA2 fun e=>eE1 fun f=>aA2 fun hf t=>?_)
 ·refine oO (aA2 fun q U=>?_) (eE2 fun x' w=>aA3 fun q1 q2 rv=>?_) (rk.at ok.is)
  ·rw[q] at e;exact zns e
  ·rw[q1] at e;replace e:=ab e;subst e
   apply G;refine get_value S.ground I (plainGet_of pg).1 (i8 hh ?_ (by rw[lookIn_dict,gl,q2])) rv.handed (bU S rv t)
   cases hml:eS ms a with
   | none=>rw[hml] at hm;exact .inl hm
   | some f=>rw[hml] at hm;revert hm;refine eE1 fun fa=>aA5 fun h1 U U h2 h3=>?_;exact .inr ⟨_,_,h1,h2,h3⟩
 ·rw[hf] at hm
  revert hm;refine eE1 fun fa=>aA5 fun h1 h2 h3 h4 h5=>?_
  refine oO (aA2 fun q1 q2=>?_) (eE2 fun x' w=>aA3 fun q1 q2 rv=>?_) (rk.at ok.is)
  ·have K:=aj s.heap (methodObj (.ref fa) (.ref p.1))
   apply G;refine get_bind S.ground I (plainGet_of pg).1 (findObj_fn hh h1 h4 h5 ok.plain (by rw[lookIn_dict,gl,q2])) (plainGet_of pg).2
    (wpAny_call (fn_get (s:={ s with toks:=s.toks+1 }) S.ground (beq_iff_eq.mp h3) (handed_on rfl ⟨ι,H,.any,S.keeps K,.of_keeps K,.any _,t⟩)))
  ·rw[q1] at e;exact zsn e
theorem BI {pos}(ha:SX W sc a e1)(ok:fi W C name c)(hb:∀ env whole,attributeBase e1 name env whole=whole:=by intros;rfl):SX W sc (C6 C a c) (.Attribute e1 name pos):=fun r d A fs env f ι H s k e h t=>by
 refine Attribute_any_ (wpAny_mono (ha r d A fs env f ι H s _ e h t) (fun v s1 P=>?_) fun U U z=>z) (by rw[arm_eval_Attribute,hb])
 obtain⟨ι1,H1,y,S1,E1,rv,t⟩:=P
 exact wpAny_mono (wy ok h.ar S1 rv t) (fun u s3 P=>P.from E1) fun U U z=>z
end
structure WOk (W:Wd)(C:Tri Kl):Prop where
 kP:∀ k a,W.fn k=some a→keepIn W.K (.ref a)=true
 tP:∀ c a,W.cls c=some a→keepIn W.K (.ref a)=true
 FT:∀ c a,W.cls c=some a→∃ kl,C.get c=some kl
 xY:∀ c Ca i ms sup,W.cls c=some Ca→C.get c=some (.mk i false ms sup)→findIn W.K (.ref Ca) "__setattr__" = some (some (.builtin "object.__setattr__"))∧plainOver W.K Ca=true
 make:∀ c Ca f ms sup,W.cls c=some Ca→C.get c=some (.mk (some f) false ms sup) →
  makesIn W.K Ca=true∧∃ fa,W.fn f=some fa∧findIn W.K (.ref Ca) "__init__" = some (some (.ref fa))∧typeIn W.K (.ref fa)=some (.type "function")
structure SA (W:Wd)(sc:Sc)(l:CL)(es:List Expr):Prop where
 plain:∀ pos env,(backTo pos (starEach es env)).any (·.1)=false
 args:∀ (v:Value)(pos:Pos)(r:Rt)(d:Nat)(A:Around)(fs:List Env)(env:Env)(f:Fm)(ι:Io)(H:Hp)(s:Shared)(k:KL)(e:KE),
  Here W sc r d A fs env f ι H s→l r f H k e=true→wpAny (model W.prog W.w) A (evalArgs v true (backTo pos (starEach es env)) []) (fun a s₁=>a.kw=[]∧PL W fs noX ι s k a.pos s₁) (PE W fs noX ι s e) s
section
variable {W:Wd}{sc:Sc}
theorem EJ:SA W sc eE []:=⟨fun U U=>rfl,fun v pos r d A fs env f ι H s k e h t=>PySem.evalArgs_none ⟨rfl,ι,H,[],h.st,.refl,.nil,t⟩⟩
theorem fN {l e1 es}(hl:SL W sc l (e1 :: es))(he:∀ env,starEach (e1 :: es) env=(false,eval e1 env) :: starEach es env:=by intros;rfl)
  (hp:∀ pos env,(backTo pos (starEach (e1 :: es) env)).any (·.1)=false:=by intros;rfl):SA W sc l (e1 :: es):=⟨hp,fun v pos r d A fs env f ι H s k e h t=>by
 have:=hl pos r d A fs env f ι H s k e h t
 rw[he] at this ⊢
 exact Calls.evalArgs_plain (wpAny_mono this (fun vs s1 P=>⟨rfl,P⟩) fun U U z=>z)⟩
theorem m7 {P:Value→Shared→Prop}{M:Model}{A:Around}{E:Value→Shared→Prop}{s:Shared}{pos:Pos}{v:Value}{first:List Value}{args:List (Bool × Sem Value)}{Q:Value→Shared→Prop}
  (h:wpAny M A (evalArgs v true args []) (fun a s₁=>False) E s):wpAny M A (callWith pos v first args []) Q E s:=by
 unfold callWith
 exact wpAny_bind (wpAny_holding (wpAny_mono h (fun U U z=>z.elim) fun U U z=>z))
def iX (W:Wd):Prop:=∀ (A:Around)(fs:List Env)(d:Nat)(ι:Io)(H:Hp)(s:Shared)(b:Nat)(v:Value)(vs:List Value)(xs:List Vl)(k:KV)(E:Value→Shared→Prop),
 Ar A fs d→St W fs ι H s→btV b=some v→RVs W ι s.heap vs xs→builtin b xs H k=true→wpAny (model W.prog W.w) A (call v vs) (PX W fs noX ι s k) E s
noncomputable def IJ:Value→Bool
 | .builtin _=>true
 | .type _=>true
 | _=>false
theorem yU (h:btV b=some v):(∃ id,v = .builtin id)∨∃ T,v = .type T:=by
 have:=m9 (p:=IJ) (by decide) h
 cases v<;>first | exact .inl ⟨_,rfl⟩| exact .inr ⟨_,rfl⟩| exact ft this
theorem y3 (ok:WOk W C) {ms sup}
  (rt:lT W r d)(ar:Ar A fs d)(S:St W fs ι H s)(hC:W.cls c=some Ca)(hk:C.get c=some (.mk (some f) false ms sup))(rvs:RVs W ι s.heap vs xs)
  (t:r (.fn f) (.ref H.n :: xs) (H.add (.inst c [])) (fun v h=>pK v (k (.ref H.n) h)) e=true):wpAny (model W.prog W.w) A (call (.ref Ca) vs) (PX W fs noX ι s k) (PE W fs noX ι s e) s:=by
 refine aA2 (fun h1=>eE1 fun fa=>aA3 fun h2 h3 h4=>?_) (ok.make c Ca f ms sup hC hk)
 refine wpAny_call ?_
 obtain⟨hh,g,dr,tk,os⟩:=s
 refine make_core (makes_of S.ground h1) (looks_findIn S.ground h3) (fun self=>bind_fn S.ground self h4) (.inl rfl) ?_
 have K1:∀ b o,hh.get? b=some o→((hh.push emptyDict).push (instObj Ca hh.objs.size)).get? b=some o:=fun b o e=>Heap.get?_push_of_some _ (Heap.get?_push_of_some _ e)
 have n1:=aw (h:=hh) (b:=hh.objs.size) (Nat.le_refl _)
 have n2:=aw (h:=hh) (b:=hh.objs.size+1) (Nat.le_succ _)
 have g1:((hh.push emptyDict).push (instObj Ca hh.objs.size)).get? (hh.objs.size+1)=some (instObj Ca hh.objs.size):=by
  have:=Heap.get?_push_size (hh.push emptyDict) (o:=instObj Ca hh.objs.size) rfl
  rwa [Heap.size_push] at this
 have g2:((hh.push emptyDict).push (instObj Ca hh.objs.size)).DictOf W.sk hh.objs.size []:=(Heap.DictOf.new hh).push _
 obtain⟨S2,E2⟩:=S.new (s:=⟨hh,g,dr,tk,os⟩) K1 (p:=(hh.objs.size+1,hh.objs.size)) (o:=.inst c []) (tk:=tk) (dr:=dr) n2 n1 fun U =>
  ⟨Nat.zero_le _,(by show hh.objs.size≠hh.objs.size+1;omega),Ca,_,[],hC,g1,rfl,rfl,⟨rfl,fun U U z=>by injection z⟩,g2,.nil⟩
 have ar':Arc (A.under (.builtin "type.__call__" ⟨.ref Ca :: vs,[]⟩)) fs d:=by
  refine⟨ar.handled,?_,?_,?_⟩
  ·exact ar.frames
  ·have:=ar.depth
   have e:=depth_under_make A Ca vs
   omega
  ·have:=ar.units
   have e:=units_under_make A Ca vs
   omega
 refine codeAny_mono (rt (A.under (.builtin "type.__call__" ⟨.ref Ca :: vs,[]⟩)) fs _ _ _ (.ref fa) (.fn f) (.ref (hh.objs.size+1) :: vs) _ _ _ ar' S2 (.fn h2) (.cons (.ref (ao _ _ _)) (rvs.ext E2)) t) fun q s' z=>?_
 rcases q with e' | (v | _ | _ | _)<;>first | exact z.from E2 | exact z.elim | skip
 obtain⟨ι3,H3,x,S3,E3,rv,z⟩:=z
 cases x<;>first | exact nf z | exact ns z | skip
 obtain rfl:_=Value.none:=rv.inv
 exact⟨rfl,ι3,H3,_,S3,E2.trans E3,.ref (E3.sub _ _ (ao _ _ _)),z⟩
theorem i7 (t:eu C r y xs H k e=true) :
  (∃ i g js,y = .ref i∧H.t.get i=some (.cL g js)∧r (.ref i) xs H k e=true)∨(∃ i,y = .fn i∧r (.fn i) xs H k e=true)∨(∃ b,y = .bt b∧builtin b xs H k=true) ∨
  ∃ c f ms sup,y = .cls c∧C.get c=some (.mk (some f) false ms sup)∧r (.fn f) (.ref H.n :: xs) (H.add (.inst c [])) (fun v h=>pK v (k (.ref H.n) h)) e=true:=by
 cases y with
 | ref i =>
  refine bC fun G=>?_;refine eE1 (fun o=>aA2 fun go t=>?_) (af t)
  cases o<;>first | exact nf t | exact ns t | skip
  apply G;exact .inl ⟨i,_,_,rfl,go,t⟩
 | fn i=>exact .inr (.inl ⟨i,rfl,t⟩)
 | bt b=>exact .inr (.inr (.inl ⟨b,rfl,t⟩))
 | cls c =>
  refine eE4 (fun init exc ms sup=>aA2 fun g t=>?_) (du (k:=fun init exc U U=>(@Bool.rec (fun U=>Bool) (bM H (.inst c []) fun i h=>(@Option.rec Nat (fun U=>Bool) false (fun f=>r (.fn f) (.ref i :: xs) h (fun v h=>pK v (k (.ref i) h)) e) init)) false exc)) t)
  cases exc with
  | true=>exact ft t
  | false =>
   have t:bM H (.inst c []) (fun i h=>(@Option.rec Nat (fun U=>Bool) false (fun f=>r (.fn f) (.ref i :: xs) h (fun v h=>pK v (k (.ref i) h)) e) init))=true:=t
   rw[aT] at t
   cases init with
   | none=>exact ft t
   | some f=>exact .inr (.inr (.inr ⟨c,f,ms,sup,rfl,g,t⟩))
 | _=>(first | exact nf t | exact ns t | cases t)
theorem zA (y:Vl):(∃ i,y = .fn i)∨(∃ c,y = .cls c)∨(∃ b,y = .bt b)∨(∃ i,y = .ref i)∨∀ C r vs h k e,eu C r y vs h k e=true→False:=by
 cases y with
 | fn i=>exact .inl ⟨i,rfl⟩
 | cls c=>exact .inr (.inl ⟨c,rfl⟩)
 | bt b=>exact .inr (.inr (.inl ⟨b,rfl⟩))
 | ref i=>exact .inr (.inr (.inr (.inl ⟨i,rfl⟩)))
 | _=>exact .inr (.inr (.inr (.inr fun U U U U U U t=>nomatch t)))
section
variable {C:Tri Kl}{r:Rt}{d:Nat}{A:Around}{fs:List Env}{env:Env}{f:Fm}{ι:Io}{H:Hp}{s:Shared}{v:Value}{y:Vl}{l:CL}{es:List Expr}{pos:Pos}{k:KV}{e:KE}{i:Nat}{a:Addr}
theorem wC (ok:WOk W C)(h:Here W sc r d A fs env f ι H s)(hf:W.fn i=some a)(hl:SA W sc l es)(t:l r f H (fun vs h=>eu C r (.fn i) vs h k e) e=true):wpAny (model W.prog W.w) A (callWith pos (.ref a) [] (backTo pos (starEach es env)) []) (PX W fs noX ι s k) (PE W fs noX ι s e) s:=by
 refine callWith_of (P:=W.K.In) (by rw[hl.plain];rfl) (keeps_K (ok.kP _ _ hf)) (wpAny_mono (hl.args _ pos r d A fs env f ι H s _ e h t) (fun a s1 P=>?_) fun U U z=>z)
 obtain⟨hkw,ι1,H1,xs,S1,E1,rvs,t⟩:=P
 rw[hkw]
 exact⟨S1.ground,wpAny_mono (h.rt.call h.ar.call S1 (.fn hf) rvs t) (fun U U z=>z.from E1) fun U U z=>z.from E1⟩
theorem uC (ok:WOk W C)(h:Here W sc r d A fs env f ι H s)(hc:W.cls i=some a)(hl:SA W sc l es)(t:l r f H (fun vs h=>eu C r (.cls i) vs h k e) e=true):wpAny (model W.prog W.w) A (callWith pos (.ref a) [] (backTo pos (starEach es env)) []) (PX W fs noX ι s k) (PE W fs noX ι s e) s:=by
 refine callWith_of (P:=W.K.In) (by rw[hl.plain];rfl) (keeps_K (ok.tP _ _ hc)) (wpAny_mono (hl.args _ pos r d A fs env f ι H s _ e h t) (fun a s1 P=>?_) fun U U z=>z)
 refine bC fun G=>?_
 obtain⟨hkw,ι1,H1,xs,S1,E1,rvs,t⟩:=P
 rcases i7 t with ⟨i,g,js,q,_⟩| ⟨i,q,_⟩| ⟨b,q,_⟩| ⟨c,f,ms,sup,q,hk,t⟩<;>cases q
 apply G;rw[hkw]
 exact⟨S1.ground,wpAny_mono (y3 ok h.rt h.ar S1 hc hk rvs t) (fun U U z=>z.from E1) fun U U z=>z.from E1⟩
theorem wM (bok:iX W)(h:Here W sc r d A fs env f ι H s)(hb:btV i=some v)(hl:SA W sc l es)(t:l r f H (fun vs h=>eu C r (.bt i) vs h k e) e=true):wpAny (model W.prog W.w) A (callWith pos v [] (backTo pos (starEach es env)) []) (PX W fs noX ι s k) (PE W fs noX ι s e) s:=by
 have base:=fun v=>hl.args v pos r d A fs env f ι H s _ e h t
 have fin:∀ (a:Args) s1,(a.kw=[]∧PL W fs noX ι s (fun vs h=>eu C r (.bt _) vs h k e) a.pos s1)→wpAny (model W.prog W.w) A (call v ([]++a.pos) a.kw) (PX W fs noX ι s k) (PE W fs noX ι s e) s1:=fun a s1 P=>by
  obtain⟨hkw,ι1,H1,xs,S1,E1,rvs,t⟩:=P
  rw[hkw]
  exact wpAny_mono (bok A fs d ι1 H1 s1 _ v a.pos xs k _ h.ar S1 hb rvs t) (fun U U z=>z.from E1) fun U U z=>z
 rcases yU hb with ⟨id,rfl⟩| ⟨T,rfl⟩
 ·exact Calls.callWith_builtin (hl.plain _ _) (wpAny_mono (base _) fin fun U U z=>z)
 ·exact PySem.callWith_type (hl.plain _ _) (wpAny_mono (base _) fin fun U U z=>z)
theorem uD (h:Here W sc r d A fs env f ι H s)(hi:ι i=some (a,dd))(hl:SA W sc l es)(t:l r f H (fun vs h=>eu C r (.ref i) vs h k e) e=true):wpAny (model W.prog W.w) A (callWith pos (.ref a) [] (backTo pos (starEach es env)) []) (PX W fs noX ι s k) (PE W fs noX ι s e) s:=by
 refine callWith_of (P:=FnAt a) (by rw[hl.plain];rfl) keeps_F (wpAny_mono (hl.args _ pos r d A fs env f ι H s _ e h t) (fun a' s1 P=>?_) fun U U z=>z)
 refine bC fun G=>?_
 obtain⟨hkw,ι1,H1,xs,S1,E1,rvs,t⟩:=P
 have rv1:RV W ι1 s1.heap (.ref a) (.ref i):=.ref (E1.sub _ _ hi)
 rcases i7 t with ⟨j,g,js,q,hg,t⟩| ⟨j,q,_⟩| ⟨b,q,_⟩| ⟨c,f,ms,sup,q,_⟩<;>cases q
 refine eE1 (fun p=>aA3 fun ep q z11r=>?_) (S1.get rv1 hg);obtain⟨eq,o,fd,g0,c0,d0,_⟩:=z11r
 apply G;rw[hkw]
 refine⟨?_,wpAny_mono (h.rt.call h.ar.call S1 rv1 rvs t) (fun U U z=>z.from E1) fun U U z=>z.from E1⟩
 replace q:=PySem.Value.ref.inj q;subst q
 obtain⟨oc,od,oda,osl⟩:=o
 simp only at d0;subst d0
 exact⟨oc,od,fd,osl,g0⟩
theorem wO (ok:WOk W C)(bok:iX W)(h:Here W sc r d A fs env f ι H s)(rv:RV W ι s.heap v y)(hl:SA W sc l es)(t:l r f H (fun vs h=>eu C r y vs h k e) e=true) :
  wpAny (model W.prog W.w) A (callWith pos v [] (backTo pos (starEach es env)) []) (PX W fs noX ι s k) (PE W fs noX ι s e) s:=by
 rcases zA y with ⟨i,rfl⟩| ⟨c,rfl⟩| ⟨b,rfl⟩| ⟨i,rfl⟩| dead
 ·obtain⟨a,rfl,hf⟩:=rv.inv;exact wC ok h hf hl t
 ·obtain⟨a,rfl,hc⟩:=rv.inv;exact uC ok h hc hl t
 ·exact wM bok h rv.inv hl t
 ·obtain⟨a,d,rfl,hi⟩:=rv.inv;exact uD h hi hl t
 ·refine m7 (P:=fun U U=>True) (wpAny_mono (hl.args _ pos r d A fs env f ι H s _ e h t) (fun a s1 P=>?_) fun U U z=>z)
  obtain⟨hkw,ι1,H1,xs,S1,E1,rvs,t⟩:=P
  exact(dead _ _ _ _ _ _ t).elim
end
theorem nJ (ok:WOk W C)(bok:iX W) {g l e1 es pos}(hg:SX W sc g e1)(hl:SA W sc l es)
  (he:∀ env,eval (.Call e1 es [] pos) env=(do callWith pos (← eval e1 env) [] (backTo pos (starEach es env)) (backToKw pos (keywordEach [] env))):=by intros;rfl):SX W sc (zE C g l) (.Call e1 es [] pos):=fun r d A fs env f ι H s k e h t=>by
 rw[he]
 refine wpAny_bind (wpAny_mono (hg r d A fs env f ι H s _ e h t) (fun v s1 P=>?_) fun U U z=>z)
 obtain⟨ι1,H1,y,S1,E1,rv,t⟩:=P
 exact wpAny_mono (wO ok bok (h.next S1 E1) rv hl t) (fun U U z=>z.from E1) fun U U z=>z.from E1
end
theorem kJ {P:Prop}{c x y:Bool}(e:(@Bool.rec (fun U=>Bool) y x c)=true)(h1:c=true→x=true→P)(h2:c=false→y=true→P):P:=by
 cases c
 ·exact h2 rfl e
 ·exact h1 rfl e
section
variable {W:Wd}{sc:Sc}
theorem ba {h:Heap}{l:Addr}{items:Array Value}{n:Nat}(g:IsL h l items n)(f:Array Value→Array Value):(∃ n',IsL (h.update l (Obj.mapSeq f)) l (f items) n')∧Heap.SameBut l h (h.update l (Obj.mapSeq f)):=by
 refine⟨?_,?_⟩
 ·have:=Heap.get?_update_self (Obj.mapSeq f) g rfl
  exact⟨_,this⟩
 ·exact⟨Heap.size_after_update ..,fun b hb=>Heap.get?_update_other h _ (Ne.symm hb)⟩
theorem iA {fs ι H}{s:Shared}(S:St W fs ι H s){i:Nat}{p:Addr × Addr}(ep:ι i=some p){l l':List Vl}(go:H.t.get i=some (.list l)){h':Heap}{items:Array Value}{n:Nat}(g:IsL h' p.1 items n)(sb:Heap.SameBut p.1 s.heap h')
  (ln:l'.length≤1000)(rv:RVs W ι s.heap items.toList l'){tk:Nat}{dr:Drawn}:St W fs ι (H.set i (.list l')) ⟨h',s.gens,dr,tk,s.os⟩∧Ext W noX ι s.heap ι h':=by
 have r0:=S.ro ep go
 exact S.upd ep (.inl rfl) sb ⟨_,g⟩ fun t=>⟨r0.1,ln,items,n,g,rv.mono (Sub.refl _) t⟩
theorem gZ {fs ι H}(S:St W fs ι H s)(ep:ι i=some p)(go:H.t.get i=some (.dict l))(g:h'.DictOf W.sk p.1 kvs)(sb:Heap.SameBut p.1 s.heap h')
  (ln:l'.length≤1000)(rv:RK W ι s.heap kvs l'):St W fs ι (H.set i (.dict l')) ⟨h',s.gens,dr,tk,s.os⟩∧Ext W noX ι s.heap ι h':=by
 have r0:=S.ro ep go
 exact S.upd ep (.inl rfl) sb (by revert g;refine eE3 fun o es e=>aA2 fun gg U=>?_;exact⟨o,gg⟩) fun t=>⟨r0.1,ln,kvs,g,rv.mono (Sub.refl _) t⟩
theorem eB (t:items H v k=true):(∃ l,v = .tup l∧k l=true)∨∃ i l,v = .ref i∧H.t.get i=some (.list l)∧k l=true:=by
 refine bC fun G=>?_;cases v<;>first | exact nf t | exact ns t | skip
 ·apply G;exact .inl ⟨_,rfl,t⟩
 ·refine eE1 (fun o=>aA2 fun go t=>?_) (af t)
  cases o<;>first | exact nf t | exact ns t | skip
  apply G;exact .inr ⟨_,_,rfl,go,t⟩
theorem aU {args:List Vl}{t:Vl→Bool}(e:(ak false (fun x r=>(ak (t x) (fun U U=>false) r)) args)=true):∃ x,args=[x]∧t x=true:=by
 cases args with
 | nil=>exact ft e
 | cons x r=>cases r with
  | nil=>exact⟨x,rfl,e⟩
  | cons _ _=>exact ft e
theorem bk (r:RVs W ι h vs [x]):∃ v,vs=[v]∧RV W ι h v x:=by
 cases r with | cons a b=>cases b;exact⟨_,rfl,a⟩
theorem vj {fs ι H d A}{s:Shared}{E:Value→Shared→Prop}(ar:Ar A fs d)(S:St W fs ι H s){name:Str}{a:Nat}(hn:ag name a){i:Nat}{p:Addr × Addr}(ep:ι i=some p){l:List Vl}(go:H.t.get i=some (.list l)){vs:List Value}{xs:List Vl}(rvs:RVs W ι s.heap vs xs){k:KV}{id:String}
  (hid:(name=Str.ofString "append"∧id = "list.append")∨(name=Str.ofString "pop"∧id = "list.pop")∨(name=Str.ofString "extend"∧id = "list.extend"))
  (t:tu a i l xs H k=true):wpAny (model W.prog W.w) A (call (.builtin id) (.ref p.1 :: vs)) (PX W fs noX ι s k) E s:=by
 have ca:ag (Str.ofString "append") 3465715398753:=⟨by decide +kernel,by decide +kernel,by decide +kernel⟩
 have cp:ag (Str.ofString "pop") 1849328:=⟨by decide +kernel,by decide +kernel,by decide +kernel⟩
 have ce:ag (Str.ofString "extend") 3465715465317:=⟨by decide +kernel,by decide +kernel,by decide +kernel⟩
 refine bC fun G=>?_;obtain⟨eq,ln,items,n,g,rv⟩:=S.ro ep go
 have sz:=rv.length
 simp only[Array.length_toList] at sz
 rcases hid with ⟨rfl,rfl⟩| ⟨rfl,rfl⟩| ⟨rfl,rfl⟩
 ·have ea:a=3465715398753:=(hn.eq_iff ca).mp rfl
  subst ea
  refine eE1 (fun x=>aA2 fun z4q1 t=>?_) (aU (t:=fun x=>small (gU l [x]) (aX H i (.list (gU l [x])) (k .none))) t);obtain rfl:=z4q1
  refine eE1 (fun v=>aA2 fun z5q1 r1=>?_) (bk rvs);obtain rfl:=z5q1
  obtain⟨ln',t⟩:=aA t
  rw[bl] at t
  apply G;refine call_meets F.slot_list_append (aE g).typeIs F.entry_list_append (F.args_list_append_2 _ _) (AutoListH.list_append_list_val_0 p.1 items n v (by unfold sizeLine;omega)) ⟨g,?_⟩
  refine bC fun G=>?_;obtain⟨⟨n',g'⟩,sb⟩:=ba g (fun x=>x.push v)
  obtain⟨S2,E2⟩:=iA S ep go g' sb ln' (by rw[oB];simpa using rv.append (.cons r1 .nil)) (tk:=s.toks) (dr:=s.drawn)
  apply G;exact⟨ι,_,.none,S2,E2,.none,t⟩
 ·have ea:a=1849328:=(hn.eq_iff cp).mp rfl
  subst ea
  cases xs with
  | cons _ _=>exact ft t
  | nil =>
   cases rvs
   have t:(@List.rec Vl (fun U=>Bool) false (fun v r U=>aX H i (.list (fU r)) (k v)) (fU l))=true:=t
   rw[eK] at t
   cases q:l.reverse with
   | nil=>rw[q] at t;exact ft t
   | cons y r =>
    rw[q] at t
    have t:aX H i (.list (fU r)) (k y)=true:=t
    rw[bl,eK] at t
    have el:l=r.reverse++[y]:=by rw[← List.reverse_reverse l,q,List.reverse_cons]
    have ne:l.length=r.length+1:=by rw[el];simp
    have gy:l[items.size - 1]? = some y:=by rw[sz,ne,el];simp
    refine eE1 (fun v=>aA2 fun gv rvv=>?_) (rv.get gy)
    rw[Array.getElem?_toList] at gv
    apply G;refine call_meets F.slot_list_pop (aE g).typeIs F.entry_list_pop (F.args_list_pop_1 _) (MeetsSeq.list_pop_last p.1 items n v gv (by unfold sizeLine;omega)) ⟨g,?_⟩
    refine bC fun G=>?_;obtain⟨⟨n',g'⟩,sb⟩:=ba g (fun xs=>xs.eraseIdxIfInBounds (items.size - 1))
    have et:(items.eraseIdxIfInBounds (items.size - 1)).toList=items.toList.take (items.size - 1):=by
     have:items.size - 1 < items.size:=by omega
     rw[Array.eraseIdxIfInBounds,dif_pos this,Array.toList_eraseIdx,List.eraseIdx_eq_take_drop_succ]
     rw[List.drop_of_length_le (by simp;omega),List.append_nil]
    apply G;obtain⟨S2,E2⟩:=iA S ep go (l':=r.reverse) g' sb (by simp;omega) (by
     rw[et]
     have:=rv.take (items.size - 1)
     rw[el] at this
     rw[show items.size - 1=r.reverse.length by simp;omega] at this ⊢
     simpa using this) (tk:=s.toks) (dr:=s.drawn)
    exact⟨ι,_,y,S2,E2,rvv.ext E2,t⟩
 ·have ea:a=3465715465317:=(hn.eq_iff ce).mp rfl
  subst ea
  refine eE1 (fun x=>aA2 fun z12q1 t=>?_) (aU (t:=fun x=>Internal.items H x fun m=>small (gU l m) (aX H i (.list (gU l m)) (k .none))) t);obtain rfl:=z12q1
  refine eE1 (fun v=>aA2 fun z13q1 r1=>?_) (bk rvs);obtain rfl:=z13q1
  have fin:∀ (its:Array Value)(m:List Vl),RVs W ι s.heap its.toList m→small (gU l m) (aX H i (.list (gU l m)) (k .none))=true→PX W fs noX ι s k Value.none { s with heap:=s.heap.update p.1 (Obj.mapSeq fun x=>x++its),toks:=s.toks }:=fun its m rm t=>by
   obtain⟨ln',t⟩:=aA t
   rw[bl] at t
   obtain⟨⟨n',g'⟩,sb⟩:=ba g (fun x=>x++its)
   obtain⟨S2,E2⟩:=iA S ep go g' sb ln' (by rw[oB];simpa using rv.append rm) (tk:=s.toks) (dr:=s.drawn)
   exact⟨ι,_,.none,S2,E2,.none,t⟩
  rcases eB t with ⟨m,rfl,t'⟩| ⟨j,m,rfl,gj,t'⟩
  ·refine eE3 (fun U U U=>aA5 fun z17q3 g2 ln2 rv2 U=>?_) (r1.inv);obtain rfl:=z17q3;apply G;next =>
    have a1:=rv2.length
    simp only[Array.length_toList] at a1
    refine call_meets F.slot_list_extend (aE g).typeIs F.entry_list_extend (F.args_list_extend_2 _ _) (AutoSeq1.list_extend_list_tuple_0 p.1 items n _ _ _ (by simp[Builtin.List.listTooLong,sizeLine];omega) (by unfold sizeLine;omega) (by unfold sizeLine;omega)) ⟨g,g2,fin _ m rv2 t'⟩
  ·refine eE1 (fun p2=>aA3 fun ep2 z18q2 z18r=>?_) (S.get r1 gj);obtain rfl:=z18q2;obtain⟨eq2,ln2,its2,n2,g2,rv2⟩:=z18r
   have a1:=rv2.length
   simp only[Array.length_toList] at a1
   apply G;refine call_meets F.slot_list_extend (aE g).typeIs F.entry_list_extend (F.args_list_extend_2 _ _) (AutoSeq1.list_extend_list_list_0 p.1 items n _ _ _ (by simp[Builtin.List.listTooLong,sizeLine];omega) (by unfold sizeLine;omega) (by unfold sizeLine;omega)) ⟨g,g2,fin _ m rv2 t'⟩
end
structure lZ (s:Str)(c:Nat):Prop where
 code:enc s.cps.toList=c
 ok:∀ x∈s.cps.toList,0 < x∧x < 128
theorem ag.w (h:ag s c):lZ s c:=⟨h.code,h.ok⟩
theorem lZ.is (h:lZ s c)(l:Internal.ee c≤1000):ag s c:=⟨h.code,h.ok,by rw[← hO h.ok,h.code];exact l⟩
theorem lZ.append (h:lZ s c)(k:lZ t d):lZ (s++t) (lP c d):=by
 refine⟨?_,fun x hx=>?_⟩
 ·rw[cps_append,gC]
  show _=c+d * 128 ^ Internal.ee c
  rw[show Internal.ee c=s.cps.toList.length by rw[← h.code,hO h.ok],h.code,k.code]
 ·rw[cps_append] at hx
  rcases List.mem_append.mp hx with hx | hx
  ·exact h.ok x hx
  ·exact k.ok x hx
theorem ag.Ep (h:ag s c):s.length≤1000:=by have:=h.len;rw[Array.length_toList] at this;exact this
theorem ur (a b c:Str):a++b++c=a++(b++c):=str_of_list (by simp only[cps_append,List.append_assoc])
theorem oE:∀ (l:List Nat)(n:Nat),(∀ x∈l,0 < x∧x < 128)→enc (l.take n)=enc l % 128 ^ n
 | _,0,_=>by simp[enc,Nat.mod_one]
 | [],n+1,_=>by simp[enc]
 | a :: r,n+1,h=>by
  have h1:=h a (.head _)
  have ih:=oE r n fun x hx=>h x (.tail _ hx)
  simp only[List.take_succ_cons,enc,ih,Nat.pow_succ]
  rw[Nat.mul_comm (128 ^ n) 128,Nat.mod_mul,gR h1.2,hG h1.2]
section
variable {W:Wd}{sc:Sc}
theorem jf (r:StrsAre vs ys):vs.length=ys.length :=
 StrsAre.rec (motive:=fun vs ys U=>vs.length=ys.length) rfl (fun U U U U U ih=>congrArg (·+1) ih) r
theorem qF (hs:lZ sep cs)(rvs:RVs W ι h vs l)(e:joinR cs l k=true) :
  ∃ ys c,StrsAre vs ys∧(∀ y∈ys,y.length≤1000)∧lZ (Str.join sep ys) c∧k c=true:=by
 induction l generalizing vs k with
 | nil =>
  rw[show vs=[] from rvs.inv]
  exact⟨[],0,.nil,(fun U m=>nomatch m),⟨rfl,fun U m=>nomatch m⟩,e⟩
 | cons x l ih =>
  refine bC fun G=>?_;refine bC fun J=>?_;refine eE2 (fun v r'=>aA3 fun z1 a b=>?_) rvs.inv;subst z1
  cases l with
  | nil =>
   apply J;apply G;rw[show r'=[] from b.inv]
   refine bC fun G=>?_;refine bC fun J=>?_;refine eE1 (fun c=>aA2 fun z2 t=>?_) (aG (k:=fun s=>k s) e);subst z2
   refine eE2 (fun s t1=>aA2 fun z3 h1=>?_) a.inv;subst z3
   apply J;apply G;exact⟨[_],c,.cons _ _ .nil,(fun y m=>by simp only[List.mem_singleton] at m;subst m;exact h1.Ep),h1.w,t⟩
  | cons y l =>
   refine eE1 (fun c=>aA2 fun z2 t=>?_) (aG (k:=fun s=>joinR cs (_ :: _) fun t=>k (lP s (lP cs t))) e);subst z2
   refine eE2 (fun s t1=>aA2 fun z3 h1=>?_) a.inv;subst z3
   refine eE2 (fun ys c2=>aA4 fun e1 e2 e3 e4=>?_) (ih b t)
   cases ys with
   | nil =>
    have z:=jf e1
    rw[b.length] at z;exact nomatch z
   | cons y ys =>
    apply J;apply G;refine⟨_ :: y :: _,_,.cons _ _ e1,(fun z m=>?_),?_,e4⟩
    ·rcases List.mem_cons.mp m with rfl | m
     ·exact h1.Ep
     ·exact e2 z m
    ·show lZ (_++sep++Str.join sep (y :: _)) _
     rw[ur]
     exact h1.w.append (hs.append e3)
theorem D7 {ys:List Str}(h:∀ y∈ys,y.length≤1000):(ys.map (·.length)).sum≤ys.length * 1000:=by
 induction ys with
 | nil=>simp
 | cons y r ih =>
  have h1:=h y (.head _)
  have h2:=ih fun z m=>h z (.tail _ m)
  simp only[List.map_cons,List.sum_cons,List.length_cons];omega
theorem BY (h:ag s c)(k:ag t d):Txt.startswith s t=yi c d:=by
 have e1:s.length=s.cps.toList.length:=by simp[Str.length]
 have e2:t.length=t.cps.toList.length:=by simp[Str.length]
 have e3:Builtin.Str.subAt s t 0=decide (s.cps.toList.take t.cps.toList.length=t.cps.toList):=by
  unfold Builtin.Str.subAt
  rw[e2]
  have:(s.cps.extract 0 (0+t.cps.toList.length)).toList=s.cps.toList.take t.cps.toList.length:=by simp
  by_cases q:s.cps.toList.take t.cps.toList.length=t.cps.toList
  ·rw[decide_eq_true q]
   have:s.cps.extract 0 (0+t.cps.toList.length)=t.cps:=Array.ext' (this.trans q)
   rw[this];exact beq_self_eq_true _
  ·rw[decide_eq_false q]
   refine beq_eq_false_iff_ne.mpr fun z=>q ?_
   rw[← this,z]
 have e4:yi c d=Nat.beq (enc (s.cps.toList.take t.cps.toList.length)) (enc t.cps.toList):=by
  rw[oE _ _ h.ok,h.code,k.code]
  show Nat.beq (c % 128 ^ Internal.ee d) d=_
  rw[k.ee]
 unfold Txt.startswith
 rw[e3,e4]
 by_cases q:s.cps.toList.take t.cps.toList.length=t.cps.toList
 ·have:0+t.length≤s.length:=by
   have:=congrArg List.length q
   rw[List.length_take] at this
   rw[e1,e2];omega
  rw[q,decide_eq_true this,Nat.beq_refl,decide_eq_true rfl];rfl
 ·rw[decide_eq_false q,Bool.and_false,lA]
  intro z
  exact q (tH (fun x hx=>h.ok x (List.mem_of_mem_take hx)) k.ok z)
set_option tactic.hygienic true in
theorem xi {fs ι H d A}{s:Shared}{E:Value→Shared→Prop}(ar:Ar A fs d)(S:St W fs ι H s){name:Str}{a:Nat}(hn:ag name a){x:Str}{t0:Tok}{c:Nat}(hx:ag x c){vs:List Value}{xs:List Vl}(rvs:RVs W ι s.heap vs xs){k:KV}{id:String}
  (hid:(name=Str.ofString "join"∧id = "str.join")∨(name=Str.ofString "startswith"∧id = "str.startswith"))
  (t:tJ a c xs H k=true):wpAny (model W.prog W.w) A (call (.builtin id) (.str x t0 :: vs)) (PX W fs noX ι s k) E s:=by
 have cj:ag (Str.ofString "join") 232421354:=⟨by decide +kernel,by decide +kernel,by decide +kernel⟩
 have cs:ag (Str.ofString "startswith") 967649009836689488499:=⟨by decide +kernel,by decide +kernel,by decide +kernel⟩
 refine bC fun G=>?_;rcases hid with ⟨rfl,rfl⟩| ⟨rfl,rfl⟩
 ·have ea:a=232421354:=(hn.eq_iff cj).mp rfl
  subst ea
  refine eE1 (fun y=>aA2 fun z4q1 t=>?_) (aU (t:=fun y=>(eY false (fun m=>joinR c m fun t=>mkS t H k) y)) t);obtain rfl:=z4q1
  refine eE1 (fun v=>aA2 fun z5q1 r1=>?_) (bk rvs);obtain rfl:=z5q1
  cases y<;>first | exact nf t | exact ns t | skip
  rename_i m
  refine eE3 (fun U U U=>aA5 fun z6q3 g ln rv U=>?_) (r1.inv);obtain rfl:=z6q3;apply G;next =>
   refine eE2 (fun ys c2=>aA4 fun e1 e2 e3 e4=>?_) (qF hx.w rv (k:=fun t=>mkS t H k) t)
   obtain⟨l2,t⟩:=ae e4
   have a1:=rv.length
   have a2:=jf e1
   have a3:=D7 e2
   have a4:=hx.Ep
   refine join_tuple (zy g) e1 ?_ fun t' k'=>?_
   ·have:ys.length * x.length≤ys.length * 1000:=Nat.mul_le_mul_left _ a4
    omega
   ·show PX W fs noX ι s k (.str (Builtin.Str.glued x ys) t') _
    rw[StrLaws.glued_eq_join]
    exact bU S (.str _ (e3.is (bS l2))) t
 ·have ea:a=967649009836689488499:=(hn.eq_iff cs).mp rfl
  subst ea
  refine eE1 (fun y=>aA2 fun z9q1 t=>?_) (aU (t:=fun y=>ed y fun t=>k (.bool (yi c t)) H) t);obtain rfl:=z9q1
  refine eE1 (fun v=>aA2 fun z10q1 r1=>?_) (bk rvs);obtain rfl:=z10q1
  refine eE1 (fun d=>aA2 fun z11q1 t=>?_) (aG (k:=fun t=>k (.bool (yi c t)) H) t);obtain rfl:=z11q1
  refine eE2 (fun U t1=>aA2 fun z12q2 h1=>?_) (r1.inv);obtain rfl:=z12q2;apply G;next =>
   refine SC.startswith ?_
   rw[BY hx h1]
   exact⟨ι,H,_,S,.refl,.bool _,t⟩
end
section
variable {W:Wd}{sc:Sc}
theorem qi (c:Nat):∀ l:List (Nat × Vl),(sx c l).length≤l.length
 | []=>Nat.le_refl _
 | (a,w) :: r=>by
  have:=qi c r
  rw[mz]
  split
  ·simp
  ·simp only[List.length_cons];omega
theorem nU (W:Wd)(s:Str)(t:Tok):W.sk.is s (.str s t)=true:=dO s t
set_option tactic.hygienic true in
theorem eI {kvs:List (Str × Value)}{s:Str}{v:Value}(nd:(kvs.map (·.1)).Nodup):((PySem.stored kvs s v).map (·.1)).Nodup:=by
 unfold PySem.stored
 split
 ·rw[List.map_map]
  have:((fun x:Str × Value=>x.1) ∘ fun kv:Str × Value=>if kv.1=s then(kv.1,v) else kv)=(·.1):=by
   funext kv
   show(if kv.1=s then(kv.1,v) else kv).1=kv.1
   split<;>rfl
  rw[this];exact nd
 ·rename_i h
  rw[List.map_append]
  refine List.nodup_append.mpr ⟨nd,by simp,fun a ha b hb=>?_⟩
  simp only[List.map_cons,List.map_nil,List.mem_singleton] at hb
  subst hb
  intro e;subst e
  refine eE1 (fun kv=>aA2 fun m e=>?_) (List.mem_map.mp ha)
  exact h (List.any_eq_true.mpr ⟨kv,m,decide_eq_true e⟩)
theorem oY {ι:Io}{h:Heap}{more:List (Str × Value)}{m:List (Nat × Vl)}{kvs:List (Str × Value)}{l:List (Nat × Vl)}(rm:RK W ι h more m)(r:RK W ι h kvs l)(nd:(kvs.map (·.1)).Nodup):RK W ι h (merged kvs more) (jJ m l):=by
 induction rm generalizing kvs l with
 | nil=>exact r
 | cons hs rv _ ih=>exact ih (RK.stored hs rv r nd) (eI nd)
set_option tactic.hygienic true in
theorem uw {fs ι H d A}{s:Shared}{E:Value→Shared→Prop}(ar:Ar A fs d)(S:St W fs ι H s){name:Str}{a:Nat}(hn:ag name a){i:Nat}{p:Addr × Addr}(ep:ι i=some p){l:List (Nat × Vl)}(go:H.t.get i=some (.dict l)){vs:List Value}{xs:List Vl}(rvs:RVs W ι s.heap vs xs){k:KV}{id:String}
  (hid:(name=Str.ofString "get"∧id = "dict.get")∨(name=Str.ofString "pop"∧id = "dict.pop")∨(name=Str.ofString "update"∧id = "dict.update"))
  (t:sQ a i l xs H k=true):wpAny (model W.prog W.w) A (call (.builtin id) (.ref p.1 :: vs)) (PX W fs noX ι s k) E s:=by
 have cg:ag (Str.ofString "get") 1913575:=⟨by decide +kernel,by decide +kernel,by decide +kernel⟩
 have cp:ag (Str.ofString "pop") 1849328:=⟨by decide +kernel,by decide +kernel,by decide +kernel⟩
 have cu:ag (Str.ofString "update") 3501677164661:=⟨by decide +kernel,by decide +kernel,by decide +kernel⟩
 refine bC fun G=>?_;obtain⟨eq,ln,kvs,g,rk⟩:=S.ro ep go
 have nm:=S.fO ep
 have sz:=rk.length
 have nd:(kvs.map (·.1)).Nodup:=by revert g;refine eE3 fun U U U=>aA6 fun U U U U U x=>?_;exact x
 rcases hid with ⟨rfl,rfl⟩| ⟨rfl,rfl⟩| ⟨rfl,rfl⟩
 ·have ea:a=1913575:=(hn.eq_iff cg).mp rfl
  subst ea
  cases xs with
  | nil=>exact ft t
  | cons x r =>
   cases r with
   | nil =>
    refine eE1 (fun v=>aA2 fun z5q1 r1=>?_) (bk rvs);obtain rfl:=z5q1
    refine eE1 (fun c=>aA2 fun hc t'=>?_) (aG (k:=fun s=>cI l s (k .none H) fun v=>k v H) t)
    subst hc;clear t;have t:=t'
    refine eE2 (fun U t1=>aA2 fun z7q2 h1=>?_) (r1.inv);obtain rfl:=z7q2;apply G;next =>
     refine call_meetsIn F.slot_dict_get g.typeIs F.entry_dict_get (F.args_dict_get_2 _ _) (meets_dict_get W.sk p.1 (nU W _ t1) nm) ⟨_,g.mapOf,?_⟩
     refine oO (aA2 fun q1 q2=>?_) (eE2 fun x w=>aA3 fun q1 q2 rv=>?_) (rk.at h1)
     ·rw[q2];refine oO (aA2 fun U t=>?_) (eE1 fun v=>aA2 fun e U=>?_) (aV t)
      ·exact bU S .none t
      ·rw[q1] at e;exact zns e
     ·rw[q2];refine oO (aA2 fun e U=>?_) (eE1 fun v=>aA2 fun e t=>?_) (aV t)
      ·rw[q1] at e;exact zsn e
      ·rw[q1] at e;replace e:=ab e;subst e;exact bU S rv t
   | cons y r =>
    cases r with
    | cons _ _=>have t:ed x (fun U=>false)=true:=t;refine eE1 (fun U=>aA2 fun U z=>?_) (aG t);exact ft z
    | nil =>
     apply G;cases rvs with | cons r1 r2 =>
     refine bC fun G=>?_;refine eE1 (fun w2=>aA2 fun hw2 r3=>?_) (bk r2)
     subst hw2
     refine eE1 (fun c=>aA2 fun hc t'=>?_) (aG (k:=fun s=>cI l s (k y H) fun v=>k v H) t)
     subst hc;clear t;have t:=t'
     refine eE2 (fun U t1=>aA2 fun z11q2 h1=>?_) (r1.inv);obtain rfl:=z11q2;apply G;next =>
      refine call_meetsIn F.slot_dict_get g.typeIs F.entry_dict_get (F.args_dict_get_3 _ _ _) (meets_dict_get_default W.sk p.1 (nU W _ t1) nm w2) ⟨_,g.mapOf,?_⟩
      refine oO (aA2 fun q1 q2=>?_) (eE2 fun x w=>aA3 fun q1 q2 rv=>?_) (rk.at h1)
      ·rw[q2];refine oO (aA2 fun U t=>?_) (eE1 fun v=>aA2 fun e U=>?_) (aV t)
       ·exact bU S r3 t
       ·rw[q1] at e;exact zns e
      ·rw[q2];refine oO (aA2 fun e U=>?_) (eE1 fun v=>aA2 fun e t=>?_) (aV t)
       ·rw[q1] at e;exact zsn e
       ·rw[q1] at e;replace e:=ab e;subst e;exact bU S rv t
 ·have ea:a=1849328:=(hn.eq_iff cp).mp rfl
  subst ea
  cases xs with
  | nil=>exact ft t
  | cons x r =>
   cases r with
   | nil=>have t:ed x (fun U=>false)=true:=t;refine eE1 (fun U=>aA2 fun U z=>?_) (aG t);exact ft z
   | cons y r =>
    cases r with
    | cons _ _=>have t:ed x (fun U=>false)=true:=t;refine eE1 (fun U=>aA2 fun U z=>?_) (aG t);exact ft z
    | nil =>
     apply G;cases rvs with | cons r1 r2 =>
     refine bC fun G=>?_;refine eE1 (fun w2=>aA2 fun hw2 r3=>?_) (bk r2)
     subst hw2
     refine eE1 (fun c=>aA2 fun hc t'=>?_) (aG (k:=fun s=>cI l s (k y H) fun v=>aX H i (.dict (sx s l)) (k v)) t)
     subst hc;clear t;have t:=t'
     refine eE2 (fun U t1=>aA2 fun z16q2 h1=>?_) (r1.inv);obtain rfl:=z16q2;apply G;next =>
      refine oO (aA2 fun q1 q2=>?_) (eE2 fun x w=>aA3 fun q1 q2 rv=>?_) (rk.at h1)
      ·refine call_meetsIn F.slot_dict_pop g.typeIs F.entry_dict_pop (F.args_dict_pop_3 _ _ _) (meets_dict_pop_default W.sk p.1 (nU W _ t1) nm rfl w2) ⟨kvs,g,q2,?_⟩
       refine oO (aA2 fun U t=>?_) (eE1 fun v=>aA2 fun e U=>?_) (aV t)
       ·exact bU S r3 t
       ·rw[q1] at e;exact zns e
      ·refine call_meetsIn F.slot_dict_pop g.typeIs F.entry_dict_pop (F.args_dict_pop_3 _ _ _) (meets_dict_pop_there W.sk p.1 (nU W _ t1) [w2] (.inr ⟨_,rfl⟩) rfl) ⟨kvs,w,g,by unfold sizeLine;omega,q2,fun h' g' sb=>?_⟩
       refine oO (aA2 fun e U=>?_) (eE1 fun v=>aA2 fun e t=>?_) (aV t)
       ·rw[q1] at e;exact zsn e
       ·rw[q1] at e;replace e:=ab e;subst e
        rw[bl] at t
        obtain⟨S2,E2⟩:=gZ S ep go g' sb (Nat.le_trans (qi c l) ln) (RK.without h1 rk nd) (tk:=s.toks+1) (dr:=s.drawn)
        exact⟨ι,_,_,S2,E2,rv.ext E2,t⟩
 ·have ea:a=3501677164661:=(hn.eq_iff cu).mp rfl
  subst ea
  refine eE1 (fun x=>aA2 fun z18q1 t=>?_) (aU (t:=fun x=>gq x fun r=>@Bool.rec (fun U=>Bool) (aL H r fun o=>(bO false (fun m=>small (jJ m l) (aX H i (.dict (jJ m l)) (k .none))) o)) false (Nat.beq r i)) t);obtain rfl:=z18q1
  refine eE1 (fun v=>aA2 fun z19q1 r1=>?_) (bk rvs);obtain rfl:=z19q1
  refine eE1 (fun j=>aA2 fun hj t'=>?_) (br (k:=fun r=>@Bool.rec (fun U=>Bool) (aL H r fun o=>(bO false (fun m=>small (jJ m l) (aX H i (.dict (jJ m l)) (k .none))) o)) false (Nat.beq r i)) t)
  subst hj;clear t
  have nij:j≠i∧(aL H j fun o=>(bO false (fun m=>small (jJ m l) (aX H i (.dict (jJ m l)) (k .none))) o))=true:=by
   by_cases q:j=i
   ·subst q;rw[Nat.beq_refl] at t';exact ft t'
   ·rw[lA q] at t';exact⟨q,t'⟩
  refine eE1 (fun o=>aA2 fun gj t=>?_) (af nij.2)
  cases o<;>first | exact nf t | exact ns t | skip
  rename_i m
  obtain⟨ln',t⟩:=aA (l:=jJ m l) (k:=aX H i (.dict (jJ m l)) (k .none)) t
  rw[bl] at t
  refine eE1 (fun p2=>aA3 fun ep2 z23q2 z23r=>?_) (S.get r1 gj);obtain rfl:=z23q2;obtain⟨eq2,ln2,kvs2,g2,rk2⟩:=z23r
  have sz2:=rk2.length
  have ne:p.1≠p2.1:=(S.apart i j p p2 ep ep2 (Ne.symm nij.1)).1
  apply G;refine call_meetsIn F.slot_dict_update g.typeIs F.entry_dict_update (F.args_dict_update_2 _ _) (meets_dict_update W.sk p.1 p2.1 ne (S.fO ep2)) ⟨kvs,kvs2,g,g2,by unfold sizeLine;omega,fun h' g' U sb=>?_⟩
  obtain⟨S2,E2⟩:=gZ S ep go g' sb ln' (oY rk2 rk nd) (tk:=s.toks) (dr:=s.drawn)
  exact⟨ι,_,.none,S2,E2,.none,t⟩
end
section
variable {W:Wd}{sc:Sc}
set_option tactic.hygienic true in
theorem rz (t:CU C v a H k=true) :
  (∃ c,v = .str c∧(a=232421354∨a=967649009836689488499)∧k .s=true) ∨
  (∃ i l,v = .ref i∧H.t.get i=some (.list l)∧(a=3465715398753∨a=1849328∨a=3465715465317)∧k .l=true) ∨
  (∃ i l,v = .ref i∧H.t.get i=some (.dict l)∧(a=1913575∨a=1849328∨a=3501677164661)∧k .d=true) ∨
  ∃ i c l f i0 ms sup,v = .ref i∧H.t.get i=some (.inst c l)∧dl l a=none∧C.get c=some (.mk i0 false ms sup)∧eS ms a=some f∧k (.f f)=true:=by
 have two:∀ {p q:Nat}{b:Bool},(@Bool.rec (fun U=>Bool) (@Bool.rec (fun U=>Bool) false b (Nat.beq a q)) b (Nat.beq a p))=true→(a=p∨a=q)∧b=true:=fun {p q b} e=>by
  refine kJ e (fun h1 h2=>⟨.inl (aD h1),h2⟩) fun U e=>?_
  obtain⟨h1,h2⟩:=ae e
  exact⟨.inr (aD h1),h2⟩
 have three:∀ {p q r:Nat}{b:Bool},(@Bool.rec (fun U=>Bool) (@Bool.rec (fun U=>Bool) (@Bool.rec (fun U=>Bool) false b (Nat.beq a r)) b (Nat.beq a q)) b (Nat.beq a p))=true→(a=p∨a=q∨a=r)∧b=true:=fun {p q r b} e=>by
  refine kJ e (fun h1 h2=>⟨.inl (aD h1),h2⟩) fun U e=>?_
  obtain⟨h1,h2⟩:=two e
  exact⟨.inr h1,h2⟩
 refine bC fun G=>?_;cases v<;>first | exact nf t | exact ns t | skip
 ·rename_i c
  obtain⟨h1,h2⟩:=two t
  apply G;exact .inl ⟨c,rfl,h1,h2⟩
 ·rename_i i
  refine eE1 (fun o=>aA2 fun go t=>?_) (af t)
  cases o<;>first | exact nf t | exact ns t | skip
  ·obtain⟨h1,h2⟩:=three t
   apply G;exact .inr (.inl ⟨i,_,rfl,go,h1,h2⟩)
  ·obtain⟨h1,h2⟩:=three t
   apply G;exact .inr (.inr (.inl ⟨i,_,rfl,go,h1,h2⟩))
  ·rename_i c l
   refine eE4 (fun i0 x ms sup=>aA2 fun g t=>?_) (du (k:=fun U x ms U=>@Bool.rec (fun U=>Bool) (cI l a (pB ms a fun f=>k (.f f)) (fun U=>false)) false x) t)
   cases x with
   | true=>exact ft t
   | false =>
    refine oO (aA2 fun e t=>?_) (eE1 fun x=>aA2 fun e t=>?_) (aV (show cI l a (pB ms a fun f=>k (.f f)) (fun U=>false)=true from t))
    ·rw[mQ] at t
     cases q:eS ms a with
     | none=>rw[q] at t;(first | exact nf t | exact ns t | cases t)
     | some f=>rw[q] at t;apply G;exact .inr (.inr (.inr ⟨i,c,l,f,i0,ms,sup,rfl,go,e,g,q,t⟩))
    ·exact ft t
theorem mu
  (hbase:attributeBase o name env (eval o env)=eval o env)(hform:methodCallForm (args.length+([]:List Keyword).length) (backTo pos (starEach args env)) (backToKw pos (keywordEach [] env))=true)
  (hline:(apos.endLine == pos.line)=true)
  (h:wpAny M A (eval o env) (fun ov s₁=>∀ pl,wpAny M A (getMethod ov name pl) (fun p s₂=>wpAny M A (callWith pos p.1 p.2 (backTo pos (starEach args env)) []) Q E s₂) E s₁) E s) :
  wpAny M A (eval (.Call (.Attribute o name apos) args [] pos) env) Q E s:=by
 rw[arm_eval_Call,hbase]
 refine wpAny_bind (wpAny_mono h (fun ov s₁ h₁=>?_) fun U U e=>e)
 refine wpAny_bind (wpAny_standAt ?_)
 have hpos:methodCallPos true o env apos pos=pure pos:=by unfold methodCallPos;simp[hline]
 unfold methodCall
 rw[hform]
 refine wpAny_bind (wpAny_holding (wpAny_mono (h₁ _) (fun p s₂ h₂=>?_) fun U U e=>e))
 obtain⟨f,first⟩:=p
 exact wpAny_bind (wpAny_of_eq hpos h₂)
theorem eL {M:Model}{A:Around}{fs:List Env}{env:Env}{f:Fm}{ι:Io}{H:Hp}{s:Shared}{r:Rt}{d:Nat}{l:CL}{es:List Expr}{pos:Pos}{k:KL}{e:KE}{id:String}{ov:Value}{Q:Value→Shared→Prop}
  (h:Here W sc r d A fs env f ι H s)(hl:SA W sc l es)(t:l r f H k e=true)
  (q:∀ ι1 H1 vs xs s1,St W fs ι1 H1 s1→Ext W noX ι s.heap ι1 s1.heap→RVs W ι1 s1.heap vs xs→k xs H1=true→wpAny (model W.prog W.w) A (call (.builtin id) (ov :: vs)) Q (PE W fs noX ι s e) s1) :
  wpAny (model W.prog W.w) A (callWith pos (.builtin id) [ov] (backTo pos (starEach es env)) []) Q (PE W fs noX ι s e) s:=by
 refine Calls.callWith_builtin (hl.plain _ _) (wpAny_mono (hl.args _ pos r d A fs env f ι H s _ e h t) (fun a s1 P=>?_) fun U U z=>z)
 refine bC fun G=>?_;obtain⟨hkw,ι1,H1,xs,S1,E1,rvs,t⟩:=P
 apply G;rw[hkw]
 exact q ι1 H1 a.pos xs s1 S1 E1 rvs t
theorem DN (t:runM r .l v xs a H k e=true):∃ i m,v = .ref i∧H.t.get i=some (.list m)∧tu a i m xs H k=true:=by
 refine bC fun G=>?_;refine eE1 (fun i=>aA2 fun hi t=>?_) (br (k:=fun i=>aL H i fun o=>(aW false (fun m=>tu a i m xs H k) o)) t)
 refine eE1 (fun o=>aA2 fun go t=>?_) (af t)
 cases o<;>first | exact nf t | exact ns t | skip
 apply G;exact⟨i,_,hi,go,t⟩
theorem F9 (t:runM r .d v xs a H k e=true):∃ i m,v = .ref i∧H.t.get i=some (.dict m)∧sQ a i m xs H k=true:=by
 refine bC fun G=>?_;refine eE1 (fun i=>aA2 fun hi t=>?_) (br (k:=fun i=>aL H i fun o=>(bO false (fun m=>sQ a i m xs H k) o)) t)
 refine eE1 (fun o=>aA2 fun go t=>?_) (af t)
 cases o<;>first | exact nf t | exact ns t | skip
 apply G;exact⟨i,_,hi,go,t⟩
theorem DQ (t:runM r .s v xs a H k e=true):∃ c,v = .str c∧tJ a c xs H k=true:=aG (k:=fun s=>tJ a s xs H k) t
section
variable {r:Rt}{d:Nat}{A:Around}{fs:List Env}{env:Env}{f:Fm}{ι:Io}{H:Hp}{s:Shared}{k:KV}{e:KE}{l:CL}{es:List Expr}{name:Str}{c:Nat}{pos:Pos}
theorem xT (h:Here W sc r d A fs env f ι H s)(hl:SA W sc l es)(hn:ag name c){x:Str}{t0:Tok}{c':Nat}(hx:ag x c')(t:l r f H (fun vs h=>runM r .s (.str c') vs c h k e) e=true)(id:String)
  (hid:(name=Str.ofString "join"∧id = "str.join")∨(name=Str.ofString "startswith"∧id = "str.startswith")) :
  wpAny (model W.prog W.w) A (callWith pos (.builtin id) [.str x t0] (backTo pos (starEach es env)) []) (PX W fs noX ι s k) (PE W fs noX ι s e) s:=by
 refine eL (M:=model W.prog W.w) (k:=fun vs h=>runM r .s (.str c') vs c h k e) h hl t fun ι2 H2 vs xs s2 S2 E2 rvs t2=>?_
 refine bC fun G=>?_;refine eE1 (fun c2=>aA2 fun hc t3=>?_) (DQ t2)
 replace hc:=Internal.Vl.str.inj hc;subst hc
 apply G;exact wpAny_mono (xi (E:=PE W fs noX ι s e) h.ar S2 hn hx rvs hid t3) (fun U U z=>PX.from E2 z) fun U U z=>z
theorem rH (h:Here W sc r d A fs env f ι H s)(hl:SA W sc l es)(hn:ag name c){i:Nat}{p:Addr × Addr}(ep:ι i=some p)(t:l r f H (fun vs h=>runM r .l (.ref i) vs c h k e) e=true)(id:String)
  (hid:(name=Str.ofString "append"∧id = "list.append")∨(name=Str.ofString "pop"∧id = "list.pop")∨(name=Str.ofString "extend"∧id = "list.extend")) :
  wpAny (model W.prog W.w) A (callWith pos (.builtin id) [.ref p.1] (backTo pos (starEach es env)) []) (PX W fs noX ι s k) (PE W fs noX ι s e) s:=by
 refine eL (M:=model W.prog W.w) (k:=fun vs h=>runM r .l (.ref i) vs c h k e) h hl t fun ι2 H2 vs xs s2 S2 E2 rvs t2=>?_
 refine bC fun G=>?_;refine eE2 (fun i2 m=>aA3 fun hi g2 t3=>?_) (DN t2)
 replace hi:=Internal.Vl.ref.inj hi;subst hi
 apply G;exact wpAny_mono (vj (E:=PE W fs noX ι s e) h.ar S2 hn (E2.sub _ _ ep) g2 rvs hid t3) (fun U U z=>PX.from E2 z) fun U U z=>z
theorem sd (h:Here W sc r d A fs env f ι H s)(hl:SA W sc l es)(hn:ag name c){i:Nat}{p:Addr × Addr}(ep:ι i=some p)(t:l r f H (fun vs h=>runM r .d (.ref i) vs c h k e) e=true)(id:String)
  (hid:(name=Str.ofString "get"∧id = "dict.get")∨(name=Str.ofString "pop"∧id = "dict.pop")∨(name=Str.ofString "update"∧id = "dict.update")) :
  wpAny (model W.prog W.w) A (callWith pos (.builtin id) [.ref p.1] (backTo pos (starEach es env)) []) (PX W fs noX ι s k) (PE W fs noX ι s e) s:=by
 refine eL (M:=model W.prog W.w) (k:=fun vs h=>runM r .d (.ref i) vs c h k e) h hl t fun ι2 H2 vs xs s2 S2 E2 rvs t2=>?_
 refine bC fun G=>?_;refine eE2 (fun i2 m=>aA3 fun hi g2 t3=>?_) (F9 t2)
 replace hi:=Internal.Vl.ref.inj hi;subst hi
 apply G;exact wpAny_mono (uw (E:=PE W fs noX ι s e) h.ar S2 hn (E2.sub _ _ ep) g2 rvs hid t3) (fun U U z=>PX.from E2 z) fun U U z=>z
abbrev GM (W:Wd)(fs:List Env)(A:Around)(ι:Io)(s:Shared)(env:Env)(es:List Expr)(pos:Pos)(k:KV)(e:KE)(v:Value)(name:Str):Prop:=∀ pl,wpAny (model W.prog W.w) A (getMethod v name pl) (fun p s₂=>wpAny (model W.prog W.w) A (callWith pos p.1 p.2 (backTo pos (starEach es env)) []) (PX W fs noX ι s k) (PE W fs noX ι s e) s₂) (PE W fs noX ι s e) s
theorem Jt (h:Here W sc r d A fs env f ι H s)(hl:SA W sc l es)(hn:ag name c)(rv:RV W ι s.heap v (.str c'))(ha:c=232421354∨c=967649009836689488499)(t:l r f H (fun vs h=>runM r .s (.str c') vs c h k e) e=true):GM W fs A ι s env es pos k e v name:=by
 intro pl
 refine eE2 (fun U t0=>aA2 fun z17q2 hx=>?_) (rv.inv);obtain rfl:=z17q2;next =>
  rcases ha with ha | ha
  ·have e0:name=Str.ofString "join":=hn.eq (by rw[ha];exact⟨by decide +kernel,by decide +kernel,by decide +kernel⟩)
   have:=xT (pos:=pos) (t0:=t0) h hl hn hx t "str.join" (.inl ⟨e0,rfl⟩)
   rw[e0]
   exact getMethod_builtin (T:="str") (typeIs_str _ _ _) F.plainAttrs_str F.slot_str_join F.type_str_join (fun U z=>nomatch z) this
  ·have e0:name=Str.ofString "startswith":=hn.eq (by rw[ha];exact⟨by decide +kernel,by decide +kernel,by decide +kernel⟩)
   have:=xT (pos:=pos) (t0:=t0) h hl hn hx t "str.startswith" (.inr ⟨e0,rfl⟩)
   rw[e0]
   exact getMethod_builtin (T:="str") (name:=Str.ofString "startswith") (id:="str.startswith") (typeIs_str _ _ _) F.plainAttrs_str F.slot_str_startswith F.type_str_startswith (fun U z=>nomatch z) this
theorem IK (h:Here W sc r d A fs env f ι H s)(hl:SA W sc l es)(hn:ag name c)(rv:RV W ι s.heap v (.ref i))(go:H.t.get i=some (.list l'))(ha:c=3465715398753∨c=1849328∨c=3465715465317)(t:l r f H (fun vs h=>runM r .l (.ref i) vs c h k e) e=true):GM W fs A ι s env es pos k e v name:=by
 intro pl
 refine bC fun G=>?_;refine eE1 (fun p=>aA3 fun ep z18q2 z18r=>?_) (h.st.get rv go);obtain rfl:=z18q2;obtain⟨eq,ln,its,n,g,_⟩:=z18r
 have nd:∀ a,Value.ref p.1 = .ref a→∃ o,s.heap.get? a=some o∧o.dict=none:=fun a z=>by replace z:=PySem.Value.ref.inj z;subst z;exact⟨_,g,rfl⟩
 rcases ha with ha | ha | ha
 ·have e0:name=Str.ofString "append":=hn.eq (by rw[ha];exact⟨by decide +kernel,by decide +kernel,by decide +kernel⟩)
  have:=rH (pos:=pos) h hl hn ep t "list.append" (.inl ⟨e0,rfl⟩)
  apply G;rw[e0]
  exact getMethod_builtin (T:="list") (aE g).typeIs F.plainAttrs_list F.slot_list_append F.type_list_append nd this
 ·have e0:name=Str.ofString "pop":=hn.eq (by rw[ha];exact⟨by decide +kernel,by decide +kernel,by decide +kernel⟩)
  have:=rH (pos:=pos) h hl hn ep t "list.pop" (.inr (.inl ⟨e0,rfl⟩))
  apply G;rw[e0]
  exact getMethod_builtin (T:="list") (aE g).typeIs F.plainAttrs_list F.slot_list_pop F.type_list_pop nd this
 ·have e0:name=Str.ofString "extend":=hn.eq (by rw[ha];exact⟨by decide +kernel,by decide +kernel,by decide +kernel⟩)
  have:=rH (pos:=pos) h hl hn ep t "list.extend" (.inr (.inr ⟨e0,rfl⟩))
  apply G;rw[e0]
  exact getMethod_builtin (T:="list") (aE g).typeIs F.plainAttrs_list F.slot_list_extend F.type_list_extend nd this
theorem I9 (h:Here W sc r d A fs env f ι H s)(hl:SA W sc l es)(hn:ag name c)(rv:RV W ι s.heap v (.ref i))(go:H.t.get i=some (.dict l'))(ha:c=1913575∨c=1849328∨c=3501677164661)(t:l r f H (fun vs h=>runM r .d (.ref i) vs c h k e) e=true):GM W fs A ι s env es pos k e v name:=by
 intro pl
 refine bC fun G=>?_;refine eE1 (fun p=>aA3 fun ep z19q2 z19r=>?_) (h.st.get rv go);obtain rfl:=z19q2;obtain⟨eq,ln,kvs,g,_⟩:=z19r
 have nd:∀ a,Value.ref p.1 = .ref a→∃ o,s.heap.get? a=some o∧o.dict=none:=fun a z=>by replace z:=PySem.Value.ref.inj z;subst z;revert g;refine eE3 fun o U U=>aA3 fun g1 x U=>?_;exact⟨o,g1,x.2.1⟩
 rcases ha with ha | ha | ha
 ·have e0:name=Str.ofString "get":=hn.eq (by rw[ha];exact⟨by decide +kernel,by decide +kernel,by decide +kernel⟩)
  have:=sd (pos:=pos) h hl hn ep t "dict.get" (.inl ⟨e0,rfl⟩)
  apply G;rw[e0]
  exact getMethod_builtin (T:="dict") g.typeIs F.plainAttrs_dict F.slot_dict_get F.type_dict_get nd this
 ·have e0:name=Str.ofString "pop":=hn.eq (by rw[ha];exact⟨by decide +kernel,by decide +kernel,by decide +kernel⟩)
  have:=sd (pos:=pos) h hl hn ep t "dict.pop" (.inr (.inl ⟨e0,rfl⟩))
  apply G;rw[e0]
  exact getMethod_builtin (T:="dict") g.typeIs F.plainAttrs_dict F.slot_dict_pop F.type_dict_pop nd this
 ·have e0:name=Str.ofString "update":=hn.eq (by rw[ha];exact⟨by decide +kernel,by decide +kernel,by decide +kernel⟩)
  have:=sd (pos:=pos) h hl hn ep t "dict.update" (.inr (.inr ⟨e0,rfl⟩))
  apply G;rw[e0]
  exact getMethod_builtin (T:="dict") g.typeIs F.plainAttrs_dict F.slot_dict_update F.type_dict_update nd this
theorem I6 (ok:WOk W C)(h:Here W sc r d A fs env f ι H s)(hl:SA W sc l es)(an:fi W C name c) {i0 ms sup}(rv:RV W ι s.heap v (.ref i))(go:H.t.get i=some (.inst c' l'))(hd:dl l' c=none)(hC:C.get c'=some (.mk i0 false ms sup))(hm:eS ms c=some g)
  (t:l r f H (fun vs h=>runM r (.f g) (.ref i) vs c h k e) e=true):GM W fs A ι s env es pos k e v name:=by
 intro pl
 refine bC fun G=>?_;refine eE1 (fun p=>aA3 fun ep z21q2 z21r=>?_) (h.st.get rv go);obtain rfl:=z21q2;obtain⟨ln,ne,Ca,ob,kvs,hCa,g0,hc,hdd,hno,gd,rk⟩:=z21r
 refine eE2 (fun es' m=>aA2 fun I gl=>?_) (i6 g0 hc hdd hno.1 gd)
 refine aA3 (fun pg hh hm'=>?_) (an.at_ c' Ca i0 ms sup hCa hC)
 rw[hm] at hm'
 revert hm';refine eE1 fun fa=>aA5 fun q1 q2 q3 q4 q5=>?_
 have hl0:getL name es'=some none:=by
  rw[gl]
  refine oO (aA2 fun U z=>?_) (eE2 fun x v=>aA2 fun z U=>?_) (rk.at an.is)
  ·rw[z]
  ·rw[hd] at z;exact zns z
 apply G;refine method_fn h.st.ground I (plainGet_of pg).1 (plainGet_of pg).2 q1 (beq_iff_eq.mp q3) ?_ ?_
 ·show(lookIn name (dictOf es' m)).map (·.isSome)=some false
  rw[lookIn_dict,hl0];rfl
 ·refine callWith_of (P:=W.K.In) (by rw[hl.plain];rfl) (keeps_K (ok.kP _ _ q2)) (wpAny_mono (hl.args _ pos r d A fs env f ι H s _ e h t) (fun a s2 P=>?_) fun U U z=>z)
  refine bC fun G=>?_;obtain⟨hkw,ι2,H2,xs,S2,E2,rvs,t2⟩:=P
  apply G;rw[hkw]
  exact⟨S2.ground,wpAny_mono (h.rt.call h.ar.call S2 (.fn q2) (.cons (rv.ext E2) rvs) t2) (fun U U z=>z.from E2) fun U U z=>z.from E2⟩
end
theorem z7 (ok:WOk W C)(ha:SX W sc o e1)(hl:SA W sc l es)(an:fi W C name c)
  (hb:∀ env whole,attributeBase e1 name env whole=whole)(hform:∀ env,methodCallForm (es.length+([]:List Keyword).length) (backTo pos (starEach es env)) (backToKw pos (keywordEach [] env))=true)
  (hline:(apos.endLine == pos.line)=true):SX W sc (CW C o c l) (.Call (.Attribute e1 name apos) es [] pos):=fun r d A fs env f ι H s k e h t=>by
 refine mu (hb _ _) (hform env) hline (wpAny_mono (ha r d A fs env f ι H s _ e h t) (fun v s1 P=>?_) fun U U z=>z)
 obtain⟨ι1,H1,y,S1,E1,rv,t⟩:=P
 have h1:=h.next S1 E1
 have fin:GM W fs A ι1 s1 env es pos k e v name:=by
  rcases rz (k:=fun m=>l r f H1 (fun vs h=>runM r m y vs c h k e) e) t with ⟨c',hy,ha,t'⟩| ⟨i,l',hy,go,ha,t'⟩| ⟨i,l',hy,go,ha,t'⟩| ⟨i,c',l',g,i0,ms,sup,hy,go,hd,hC,hm,t'⟩<;>subst hy
  ·exact Jt h1 hl an.is rv ha t'
  ·exact IK h1 hl an.is rv go ha t'
  ·exact I9 h1 hl an.is rv go ha t'
  ·exact I6 ok h1 hl an rv go hd hC hm t'
 intro pl
 exact wpAny_mono (fin pl) (fun p s2 z=>wpAny_mono z (fun U U z=>z.from E1) fun U U z=>z.from E1) fun U U z=>z.from E1
end
section
variable (W:Wd)(sc:Sc)(fs:List Env)(env:Env)(ι:Io)(s:Shared)
abbrev atL (env:Env):Addr→Prop:=fun b=>b=env.locals
def kO (env:Env):Value→Prop:=fun v=>v = .none∨∃ L,env.frame=some L∧v=rawInt L
inductive PF (k:KF)(u:Unit)(s':Shared):Prop where
 | mk (ι':Io)(H':Hp)(f':Fm)(S:St W fs ι' H' s')(E:Ext W (atL env) ι s.heap ι' s'.heap)(F:aS W sc env ι' s'.heap f')(t:k f' H'=true)
inductive PXE (e:KX)(v:Value)(s':Shared):Prop where
 | mk (ι':Io)(H':Hp)(f':Fm)(i:Nat)(p:Addr × Addr)(ev:v = .ref p.1)(ei:ι' i=some p)(S:St W fs ι' H' s')(E:Ext W (atL env) ι s.heap ι' s'.heap)(F:aS W sc env ι' s'.heap f')(fl:iY W s.heap ι' s'.heap p.1 (kO env))(t:e i f' H'=true)
def PSk (kn kc:KF)(kr:KV)(ι':Io)(H':Hp)(f':Fm)(h':Heap):Flow→Prop
 | .next=>kn f' H'=true
 | .cont=>kc f' H'=true
 | .brk=>False
 | .ret v=>∃ x,RV W ι' h' v x∧kr x H'=true
inductive PS (kn kc:KF)(kr:KV)(fl:Flow)(s':Shared):Prop where
 | mk (ι':Io)(H':Hp)(f':Fm)(S:St W fs ι' H' s')(E:Ext W (atL env) ι s.heap ι' s'.heap)(F:aS W sc env ι' s'.heap f')(t:PSk W kn kc kr ι' H' f' s'.heap fl)
end
section
variable {W:Wd}{sc:Sc}{r:Rt}{d:Nat}{A:Around}{fs:List Env}{env:Env}{f f':Fm}{ι ι':Io}{H H':Hp}{s s' s2:Shared}
theorem PF.from (E:Ext W (atL env) ι s.heap ι' s'.heap)(h:PF W sc fs env ι' s' k u s2):PF W sc fs env ι s k u s2:=by
 obtain⟨ι2,H2,f2,a,b,c,d⟩:=h
 exact⟨ι2,H2,f2,a,E.trans b,c,d⟩
theorem PXE.from (E:Ext W (atL env) ι s.heap ι' s'.heap)(h:PXE W sc fs env ι' s' e v s2):PXE W sc fs env ι s e v s2:=by
 obtain⟨ι2,H2,f2,i,p,a,b,c,d,g,t,k⟩:=h
 exact⟨ι2,H2,f2,i,p,a,b,c,E.trans d,g,t.from E,k⟩
theorem PS.from (E:Ext W (atL env) ι s.heap ι' s'.heap)(h:PS W sc fs env ι' s' kn kc kr fl s2):PS W sc fs env ι s kn kc kr fl s2:=by
 obtain⟨ι2,H2,f2,a,b,c,d⟩:=h
 exact⟨ι2,H2,f2,a,E.trans b,c,d⟩
theorem PS.as (h:PS W sc fs env ι s kn kc kr fl s2)(g:∀ {ι' H' f' h'},PSk W kn kc kr ι' H' f' h' fl→PSk W kn' kc' kr ι' H' f' h' fl):PS W sc fs env ι s kn' kc' kr fl s2:=by
 obtain⟨ι2,H2,f2,a,b,c,d⟩:=h
 exact⟨ι2,H2,f2,a,b,c,g d⟩
theorem Ext.atl (E:Ext W noX ι s.heap ι' s'.heap):Ext W (atL env) ι s.heap ι' s'.heap:=E.weaken fun U z=>z.elim
theorem PE.px (F:aS W sc env ι s.heap f)(h:PE W fs noX ι s (fun i h=>e i f h) v s'):PXE W sc fs env ι s e v s':=by
 obtain⟨ι2,H2,i,p,a,b,c,d,t,k⟩:=h
 exact⟨ι2,H2,f,i,p,a,b,c,d.atl,F.ext d id,t.imp fun v z=>.inl z,k⟩
theorem Here.with (h:Here W sc r d A fs env f ι H s)(S:St W fs ι' H' s')(F:aS W sc env ι' s'.heap f'):Here W sc r d A fs env f' ι' H' s':=⟨h.rt,h.ar,h.eo,F,S⟩
def STg (W:Wd)(sc:Sc)(t:CT)(ex:Expr):Prop:=∀ (r:Rt)(d:Nat)(A:Around)(fs:List Env)(env:Env)(f:Fm)(ι:Io)(H:Hp)(s:Shared)(v:Value)(x:Vl)(k:KF)(e:KX),
 Here W sc r d A fs env f ι H s→RV W ι s.heap v x→t r f x H k e=true→wpAny (model W.prog W.w) A (assign ex env v) (PF W sc fs env ι s k) (PXE W sc fs env ι s e) s
theorem jt (v:Vl):∀ (l:List Vl)(i:Nat),lU v l i=l.set i v
 | [],i=>by simp[lU]
 | a :: r,0=>rfl
 | a :: r,i+1=>congrArg (a :: ·) (jt v r i)
set_option tactic.hygienic true in
theorem fM (nd:sc.slots.Nodup)(hs:sc.slots[i]? = some n)(hn:sc.names.lookup n=some .local)(h:Here W sc r d A fs env f ι H s)(rv:RV W ι s.heap v x)
  (t:k (.mk (f.s.set i x) f.c) H=true):wpAny (model W.prog W.w) A (storeName env n v) (PF W sc fs env ι s k) E s:=by
 refine eE1 (fun m=>aA2 fun hm hr=>?_) (h.fr.ns)
 refine wpAny_storeName_local ((h.kindOf n).trans hn) hm (fun h' hm' sb=>?_) (by rw[h.eo.kind];rfl)
 refine eE3 (fun o' es' ep'=>aA3 fun g' d' U=>?_) (id hm')
 obtain⟨S2,E2⟩:=h.st.other (b:=env.locals) h.fr.nb h.fr.no sb.extBut (fun o g=>⟨fun U q=>(by revert hm;refine eE3 fun o2 es2 ep2=>aA3 fun g2 d2 U=>?_;rw[g] at g2;replace g2:=ab g2;subst g2;exact q.dE d2),o',g',fun U=>⟨es',ep',d'⟩⟩) (tk:=s.toks+1) (dr:=s.drawn)
 refine⟨ι,H,Fm.mk (f.s.set i x) f.c,S2,E2,⟨h.fr.no,h.fr.nb,⟨_,hm',fun j n' y e1 e2=>?_⟩,fun j n' e1 e2=>h.fr.cells j n' e1 e2⟩,t⟩
 by_cases q:j=i
 ·subst q
  rw[hs] at e1;replace e1:=ab e1;subst e1
  have e2:(f.s.set j x)[j]? = some y:=e2
  rw[List.getElem?_set] at e2
  split at e2
  ·split at e2
   ·replace e2:=ab e2;subst e2;exact .inr ⟨v,by simp,rv.ext E2⟩
   ·exact zns e2
  ·rename_i z;exact absurd rfl z
 ·have e2:(f.s.set i x)[j]? = some y:=e2
  rw[List.getElem?_set_ne (Ne.symm q)] at e2
  have ne:n'≠n:=fun z=>q (by
   subst z
   have h1:=(List.getElem?_eq_some_iff.mp e1)
   have h2:=(List.getElem?_eq_some_iff.mp hs)
   obtain⟨l1,h1⟩:=h1
   obtain⟨l2,h2⟩:=h2
   have pw:=List.pairwise_iff_getElem.mp nd
   rcases Nat.lt_trichotomy j i with q | q | q
   ·exact absurd (h1.trans h2.symm) (pw j i l1 l2 q)
   ·exact q
   ·exact absurd (h2.trans h1.symm) (pw i j l2 l1 q))
  refine oO (fun z=>?_) (eE1 fun w=>aA2 fun hw rw_=>?_) (hr j n' y e1 e2)
  ·exact .inl z
  ·exact .inr ⟨w,by simp[ne,hw],rw_.ext E2⟩
theorem dh (t:cV i r f x H k e=true):k (.mk (f.s.set i x) f.c) H=true:=by
 cases f with
 | mk sl cl =>
  have t:k (.mk (lU x sl i) cl) H=true:=t
  rw[jt] at t;exact t
theorem y5 (nd:sc.slots.Nodup) {pos}(hs:sc.slots[i]? = some n)(hn:sc.names.lookup n=some .local):STg W sc (cV i) (.Name n pos):=fun r d A fs env f ι H s v x k e h rv t =>
 wpAny_assign_Name (fM nd hs hn h rv (dh t))
set_option tactic.hygienic true in
theorem mf (hs:sc.cells[i]? = some n)(hn:sc.names.lookup n=some .cell)(h:Here W sc r d A fs env f ι H s)(rv:RV W ι s.heap v x)
  (t:nF i r f x H k e=true):wpAny (model W.prog W.w) A (storeName env n v) (PF W sc fs env ι s k) E s:=by
 refine bC fun G=>?_;refine eE1 (fun j=>aA2 fun g t=>?_) (fG t)
 refine eE1 (fun o0=>aA2 fun g0 t=>?_) (af t)
 cases o0<;>first | exact nf t | exact ns t | skip
 rename_i y0
 have t:aX H j (.cell x) (fun h=>k f h)=true:=t
 rw[bl] at t
 refine eE3 (fun j' a dd=>aA3 fun e1 e2 e3=>?_) (h.fr.cells i n hs (.inl hn))
 rw[g] at e1;replace e1:=ab e1;subst e1
 obtain⟨eq,o,ov,g1,c1,d1,_⟩:=h.st.ro e2 g0
 cases eq
 have ic:s.heap.IsCell a ov:=⟨o,g1,d1⟩
 apply G;unfold storeName
 simp only[(h.kindOf n).trans hn,h.eo.kind]
 refine wpAny_bind (wpAny_cellOf e3 ?_)
 unfold cellSet
 refine wpAny_bind (wpAny_load g1 ?_)
 rw[d1]
 refine wpAny_update g1 ?_
 have g2:=Heap.get?_update_self (fun o:Obj=>{ o with data:=.cell (some v) }) g1 rfl
 obtain⟨S2,E2⟩:=h.st.upd (o:=.cell x) e2 (.inl rfl) (Heap.SameBut.update ..) ⟨_,g2⟩ (fun tk=>⟨rfl,_,some v,g2,c1,rfl,.inr ⟨v,rfl,rv.mono (Sub.refl _) tk⟩⟩) (tk:=s.toks) (dr:=s.drawn)
 exact⟨ι,_,f,S2,E2.atl,h.fr.ext E2 id,t⟩
theorem Dk {pos}(hs:sc.cells[i]? = some n)(hn:sc.names.lookup n=some .cell):STg W sc (nF i) (.Name n pos):=fun r d A fs env f ι H s v x k e h rv t =>
 wpAny_assign_Name (mf hs hn h rv t)
end
section
variable {W:Wd}{sc:Sc}{r:Rt}{d:Nat}{A:Around}{fs:List Env}{env:Env}{f f':Fm}{ι ι':Io}{H H':Hp}{s s' s2:Shared}
theorem lJ (r:Pairs W.sk es kvs):(kvs.map (·.1)).Nodup→Pairs W.sk (putL name hsh (.str name tk) v es) (stored kvs name v):=by
 induction r with
 | nil=>exact fun U=>.cons (nU W name tk) rfl .nil
 | @cons e kv es kvs h1 h2 r ih =>
  intro nd
  obtain⟨t,w⟩:=kv
  have nd':=List.nodup_cons.mp nd
  obtain⟨tk',h1'⟩:=Value.isStrOf_shape h1
  have hk:e.key.isStr name=decide (t=name):=by
   rw[h1']
   show(t == name)=_
   exact(Bool.beq_eq_decide_eq t name)
  rw[ja _ _ _ _ _ nd'.1]
  simp only[putL,hk]
  by_cases q:t=name
  ·simp only[q,decide_true,if_true]
   exact .cons (by rw[← q];exact h1) rfl r
  ·simp only[q,decide_false,if_false]
   exact .cons h1 h2 (ih nd'.2)
theorem md {name:Str}{tk:Tok}{v:Value}{es:List DictEntry}:(∀ e∈es,∃ k,W.sk.is k e.key=true∧e.hash=W.sk.hash k)→∀ e∈putL name (hashStr W.w name) (.str name tk) v es,∃ k,W.sk.is k e.key=true∧e.hash=W.sk.hash k:=by
 induction es with
 | nil =>
  intro _ e m
  simp only[putL,List.mem_singleton] at m
  subst m
  exact⟨name,nU W name tk,rfl⟩
 | cons a r ih =>
  intro h e m
  simp only[putL] at m
  split at m
  ·rcases List.mem_cons.mp m with rfl | m
   ·exact h a (.head _)
   ·exact h e (.tail _ m)
  ·rcases List.mem_cons.mp m with rfl | m
   ·exact h _ (.head _)
   ·exact ih (fun e m=>h e (.tail _ m)) e m
theorem ku:∀ es:List DictEntry,(putL name hsh key v es).length≤es.length+1
 | []=>Nat.le_refl _
 | a :: r=>by
  have:=ku (name:=name) (hsh:=hsh) (key:=key) (v:=v) r
  simp only[putL]
  split
  ·simp
  ·simp only[List.length_cons];omega
def Stores (K:Frag)(C:Addr):Prop:=∃ cd,clsIn K C=some cd∧cd.mro.contains (.type "object")=true∧∀ self,refuseLoop self "__setattr__" cd.mro=pure ()
theorem oM {K:Frag}{C:Addr}(h:plainOver K C=true):Stores K C:=by
 refine eE1 (fun cd=>aA2 fun hc ho=>?_) (PySem.W.any_some h)
 exact⟨cd,hc,only_has ho,fun self=>refuse_only self ho⟩
theorem l7 {K:Frag}{x C:Addr}{ox:Obj}{od:Option Obj}{name:Str}{tk:Tok}{v:Value}{r:Option Value}{prog:Program}{w:World}{A:Around}{R:Result→Shared→Prop}{s:Shared}(X:K.In s.heap)(I:PySem.W.InstAt s.heap x ox C od)(hp:Stores K C)(ht:takerIn K C name=some r)
  (h:∀ b,wpAny (model prog w) A.in1 (match (generalizing:=false) r with | some a=>Builtin.ObjectAttr.setByDescriptor a (.ref x) v | none=>Builtin.ObjectAttr.storeInOwnDict (.ref x) (.ref C) (.str name tk) name v b)
   (fun fin s'=>match (generalizing:=false) fin with | .done f=>R (.ok f) s' | .again c'=>c'.quiet=true∧codeAny (model prog w) A c' R s') (fun e s'=>R (.error e) s') s) :
  codeAny (model prog w) A (.call (.builtin "object.__setattr__") ⟨[.ref x,.str name tk,v],[]⟩) R s:=by
 have SF:=PySem.F.store_object
 revert hp;refine eE1 fun cd=>aA3 fun hc hob hrf=>?_
 have ne:cd.mro.isEmpty=false:=by cases q:cd.mro with | nil=>rw[q] at hob;exact ft hob | cons _ _=>rfl
 have sub:Looks (model prog w) s.heap (isInstance (.ref x) (.type "object")) true:=I.type.andThen (looks_mroIn X (by unfold mroIn;rw[hc,Option.bind_some,if_neg (by rw[ne];decide),hob]))
 refine codeAny_call_builtin SF.slot.plain SF.entry (@check_slot (model prog w) _ _ s "object.__setattr__" "object" "__setattr__" (.ref x) [.str name tk,v] [] _ SF.kind SF.split sub (SF.args (.ref x) (.str name tk) v) ?_)
 refine eE1 (fun attr=>aA2 fun ha hr=>?_) (Option.bind_eq_some_iff.mp ht)
 have hm:Looks (model prog w) s.heap (mroOf (.ref C)) cd.mro:=(looks_clsIn X hc).andThen .now
 have L3:Looks (model prog w) s.heap (Builtin.ObjectAttr.storeTaker? attr) r:=by
  cases attr with
  | none=>(replace hr:=ab hr;subst hr);exact .now
  | some a =>
   refine eE1 (fun b=>aA2 fun hb z6q2=>?_) (aC hr);obtain rfl:=z6q2
   refine(looks_takesIn X hb).andThen ?_
   cases b<;>exact .now
 rw[osa_eq,refuse_eq]
 refine wpAny_bind (wpAny_bind (I.type.here (wpAny_bind (hm.here ?_))))
 rw[hrf]
 refine wpAny_pure (wpAny_bind (I.type.here (wpAny_bind ((looks_findIn X ha).here (wpAny_bind (L3.here ?_))))))
 exact h _
theorem ub {C x dx:Addr}{ox:Obj}{name:Str}{tk:Tok}{v:Value}{kvs:List (Str × Value)}{R:Result→Shared→Prop}(X:W.K.In s.heap)(hx:s.heap.get? x=some ox)(hc:ox.cls = .ref C)(hd:ox.dict=some dx)(hn:notCls ox=true)(gd:s.heap.DictOf W.sk dx kvs)
  (hp:Stores W.K C)(ht:takerIn W.K C name=some none)(hh:hasDictIn W.K C=true)(hz:kvs.length≤1000)
  (h:∀ h',h'.DictOf W.sk dx (stored kvs name v)→Heap.SameBut dx s.heap h'→R (.ok (.ret .none)) { s with heap:=h',toks:=s.toks+1 }) :
  codeAny (model W.prog W.w) A (.call (.builtin "object.__setattr__") ⟨[.ref x,.str name tk,v],[]⟩) R s:=by
 refine bC fun G=>?_;refine eE2 (fun es n=>aA2 fun I gl=>?_) (i6 hx hc hd hn gd)
 have D:s.heap.get? dx=some (dictOf es n):=by
  have:=I.dict
  rw[hd] at this;exact this
 revert gd;refine eE3 fun od es0 ep0=>aA6 fun g0 ex0 d0 ky pr nd=>?_
 rw[D] at g0;replace g0:=ab g0;subst g0
 have e0:es.toArray=es0:=by injection d0
 subst e0
 have pr:Pairs W.sk es kvs:=by simpa using pr
 have len:=pr.length
 apply G;refine l7 X I hp ht fun b=>?_
 refine bC fun G=>?_;refine eE1 (fun cd=>aA2 fun hcd hd'=>?_) (any_some hh)
 obtain⟨oc,odi,oda,osl⟩:=ox
 dsimp only at hc hd
 subst hc hd
 apply G;refine wpAny_bind (wpAny_pure (wpAny_bind (wpAny_bind (wpAny_loadPart hx (wpAny_bind ((looks_clsIn X hcd).here ?_))))))
 rw[hd']
 refine wpAny_pure (a:=some dx) (wpAny_bind (wpAny_pure (wpAny_bind ?_)))
 unfold nsSet
 refine wpAny_bind (wpAny_bind (wpAny_askSetting (wpAny_pure (wpAny_bind (wpAny_mkText (wpAny_bind (wpAny_loadPart D ?_)))))))
 dsimp only
 have noRef:∀ {es:List DictEntry}{kvs:List (Str × Value)},Pairs W.sk es kvs→es.any (·.refKey)=false:=by
  intro es kvs pr
  induction pr with
  | nil=>rfl
  | cons h1 h2 r ih =>
   obtain⟨t,h1⟩:=Value.isStrOf_shape h1
   simp only[List.any_cons,ih,Bool.or_false]
   unfold DictEntry.refKey;rw[h1]
 have c:(!es.toArray.any (·.key.isStr name)&&es.toArray.any (·.refKey))=false:=by
  rw[← Array.any_toList,← Array.any_toList]
  rw[show es.toArray.toList=es from rfl,noRef pr,Bool.and_false]
 rw[aRefKeyMayBeTheName_at,c]
 have e1:=putName_dict name (PyData.keyHash W.w.params name) (.str name s.toks) v es n
 have hf:(Obj.putName name (PyData.keyHash W.w.params name) (.str name s.toks) v (dictOf es n)).isFreed=false:=by rw[e1];rfl
 have D':=Heap.get?_update_self (Obj.putName name (PyData.keyHash W.w.params name) (.str name s.toks) v) D hf
 rw[e1] at D'
 refine wpAny_updatePart D ?_
 refine wpAny_bind (wpAny_lookBehind D' (pastItsLine_dict (by rw[List.size_toArray,sizeLine_eq];have:=ku (name:=name) (hsh:=PyData.keyHash W.w.params name) (key:=.str name s.toks) (v:=v) es;omega)) ?_)
 refine wpAny_pure (h _ ⟨_,(putL name (PyData.keyHash W.w.params name) (.str name s.toks) v es).toArray,_,D',⟨rfl,rfl,rfl⟩,rfl,?_,?_,eI nd⟩ (Heap.SameBut.update ..))
 ·intro e m
  have m2:e∈putL name (PyData.keyHash W.w.params name) (.str name s.toks) v es:=by simpa using m
  exact md (W:=W) (fun e m=>ky e (by simpa using m)) e m2
 ·simpa using lJ pr nd
theorem uF {i ms sup}(ok:fi W C name a)(hC:W.cls c=some Ca)(hk:C.get c=some (.mk i false ms sup)):takerIn W.K Ca name=some none:=by
 refine aA3 (fun U U hm=>?_) (ok.at_ c Ca i ms sup hC hk)
 unfold takerIn
 cases q:eS ms a with
 | none=>rw[q] at hm;rw[hm];rfl
 | some f=>rw[q] at hm;revert hm;refine eE1 fun fa=>aA5 fun h1 U U U h5=>?_;rw[h1];show(takesIn W.K (.ref fa)).map _=_;rw[h5];rfl
theorem ck
  (h:wpAny M A (eval o env) (fun ov s₁=>wpAny M A (setAttr ov attr v) Q E s₁) E s):wpAny M A (assign (.Attribute o attr pos) env v) Q E s:=by
 rw[assign_Attribute]
 refine wpAny_bind (wpAny_holding (wpAny_mono h (fun ov s1 z=>?_) fun U U z=>z))
 exact wpAny_bind (wpAny_standAt (wpAny_bind (wpAny_holding (wpAny_mono z (fun u s2 z=>wpAny_release z) fun U U z=>z))))
set_option tactic.hygienic true in
theorem BK (ok:WOk W C)(ho:SX W sc o e1)(an:fi W C name c):STg W sc (Cw C o c) (.Attribute e1 name pos):=fun r d A fs env f ι H s v x k e h rv t=>by
 refine ck (wpAny_mono (ho r d A fs env f ι H s _ _ h t) (fun ov s1 P=>?_) fun U U z=>z.px h.fr)
 refine bC fun G=>?_;obtain⟨ι1,H1,y,S1,E1,rv1,t⟩:=P
 refine eE1 (fun i=>aA2 fun hy t=>?_) (br (k:=fun i=>aL H1 i fun ob=>(eN false (fun c' l=>jK C c' fun U q U U=>@Bool.rec (fun U=>Bool) (small (dput c x l) (aX H1 i (.inst c' (dput c x l)) fun h=>k f h)) false q) ob)) t)
 subst hy
 refine eE1 (fun ob=>aA2 fun go t=>?_) (af t)
 cases ob<;>first | exact nf t | exact ns t | skip
 rename_i c' l
 refine eE4 (fun i0 q ms sup=>aA2 fun hk t=>?_) (du (k:=fun U q U U=>@Bool.rec (fun U=>Bool) (small (dput c x l) (aX H1 i (.inst c' (dput c x l)) fun h=>k f h)) false q) t)
 cases q with
 | true=>exact ft t
 | false =>
  obtain⟨ln',t⟩:=aA (l:=dput c x l) (k:=aX H1 i (.inst c' (dput c x l)) fun h=>k f h) t
  rw[bl] at t
  refine eE1 (fun p=>aA3 fun ep z19q2 z19r=>?_) (S1.get rv1 go);obtain rfl:=z19q2;obtain⟨ln,ne,Ca,oo,kvs,hC,g,hc,hd,hn,gd,rk⟩:=z19r
  refine aA3 (fun pg hh U=>?_) (an.at_ c' Ca i0 ms sup hC hk)
  obtain⟨hs,hp⟩:=ok.xY c' Ca i0 ms sup hC hk
  refine eE2 (fun es m=>aA2 fun I gl=>?_) (i6 g hc hd hn.1 gd)
  have nd:(kvs.map (·.1)).Nodup:=by revert gd;refine eE3 fun U U U=>aA6 fun U U U U U z=>?_;exact z
  have rk':=RK.stored an.is (rv.ext E1) rk nd
  apply G;refine set_plain S1.ground I hs (ub (s:={ s1 with toks:=s1.toks+1 }) S1.ground g hc hd hn.1 gd (oM hp) (uF an hC hk) hh ?_ fun h' gd' sb=>?_)
  ·rw[rk.length];exact ln
  ·obtain⟨S2,E2⟩:=S1.upd (o:=.inst c' (dput c x l)) ep (.inr rfl) sb (by revert gd';refine eE3 fun o2 U U=>aA2 fun g2 U=>?_;exact⟨o2,g2⟩)
    (fun tk=>⟨ln',ne,Ca,oo,_,hC,(sb.2 p.1 (Ne.symm ne)).trans g,hc,hd,hn,gd',rk'.mono (Sub.refl _) tk⟩) (tk:=s1.toks+1+1) (dr:=s1.drawn)
   exact⟨ι1,_,f,S2,(E1.trans E2).atl,(h.fr.ext E1 id).ext E2 id,t⟩
theorem gk {prog:Program}{w:World}{A:Around}{E:Value→Shared→Prop}{s:Shared}{l:Addr}{items:Array Value}{n0:Nat}{k:Int}{t:Tok}{v:Value}{Q:Unit→Shared→Prop}(g:IsL s.heap l items n0)
  (h0:0≤k)(hfit:k < 2 ^ 63)(hn:k < items.size)
  (hQ:Q () { s with heap:=s.heap.update l (Obj.mapSeq (·.setIfInBounds k.toNat v)) }) :
  wpAny (model prog w) A (setItem (.ref l) (.int k t) v) Q E s:=by
 have hl:s.heap.IsList l items:=⟨_,g,rfl,_,rfl⟩
 obtain⟨o,ho,hd⟩:∃ o,s.heap.get? l=some o∧o.data = .seq items n0:=⟨_,g,rfl⟩
 unfold setItem
 try with_reducible refine wpAny_holding ?_
 first | refine wpAny_bind (wpAny_pure ?_)| skip
 refine wpAny_bind (wpAny_sequenceKey hl.typeIs (by decide) ?_)
 refine wpAny_bind (wpAny_callSpecial?_slot (name:=Str.ofString "__setitem__") hl.typeIs slot_list_setitem
  (wpAny_call_entry slot_list_setitem hl.typeIs entry_list_setitem ?_ (args_list_setitem _ _ _)))
 show wpAny _ _ (Builtin.List.listSubscript? (.int k t) >>= _) _ _ s
 refine wpAny_bind (wpAny_listSubscript_int (fitsIndex_of h0 hfit) ?_)
 clear hfit
 obtain⟨j,rfl⟩:=Int.eq_ofNat_of_zero_le h0
 have hj:j < items.size:=by omega
 have hx':items[j]? = some items[j]:=Array.getElem?_eq_getElem hj
 show wpAny _ _ ((seqItemAt l j >>= fun r=>pure (r.map (j,·))) >>= _) _ _ s
 refine wpAny_bind (wpAny_bind (wpAny_seqItemAt ho hd (wpAny_pure ?_)))
 rw[hx']
 show wpAny _ _ (setSeqItemAt l j v >>= _) _ _ s
 refine wpAny_bind (wpAny_setSeqItemAt ho hd ?_)
 first
  | exact wpAny_bind (wpAny_pure (wpAny_pure ⟨.none,rfl,wpAny_pure hQ⟩))
  | exact wpAny_pure ⟨.none,rfl,wpAny_pure hQ⟩
theorem dN
  (h:wpAny M A (eval o env) (fun ov s₁=>wpAny M A (eval i env) (fun iv s₂=>wpAny M A (setItem ov iv v) Q E s₂) E s₁) E s):wpAny M A (assign (.Subscript o i pos) env v) Q E s:=by
 rw[assign_Subscript]
 refine wpAny_bind (wpAny_holding (wpAny_mono h (fun ov s1 z=>?_) fun U U z=>z))
 refine wpAny_bind (wpAny_holding (wpAny_mono z (fun iv s2 z=>?_) fun U U z=>z))
 refine wpAny_bind (wpAny_standAt (wpAny_bind (wpAny_holding (wpAny_mono z (fun u s3 z=>wpAny_release z) fun U U z=>z))))
set_option tactic.hygienic true in
theorem vp {i:Nat}{w x:Vl}{k:KF}(t:(aL H i fun ob=>(aW (bO false (fun m=>ed w fun s=>small (dput s x m) (aX H i (.dict (dput s x m)) fun h=>k f h)) ob) (fun m=>nat? w fun n=>@Bool.rec (fun U=>Bool) false (aX H i (.list (lU x m n)) fun h=>k f h) (Nat.ble (Nat.succ n) (eZ m))) ob))=true) :
  (∃ m n,H.t.get i=some (.list m)∧w = .int (.ofNat n)∧n < m.length∧k f (H.set i (.list (m.set n x)))=true)∨∃ m c,H.t.get i=some (.dict m)∧w = .str c∧(dput c x m).length≤1000∧k f (H.set i (.dict (dput c x m)))=true:=by
 refine bC fun G=>?_;refine eE1 (fun ob=>aA2 fun go t=>?_) (af t)
 cases ob<;>first | exact nf t | exact ns t | skip
 ·rename_i m
  refine eE1 (fun n=>aA2 fun hw t=>?_) (bG (k:=fun n=>@Bool.rec (fun U=>Bool) false (aX H i (.list (lU x m n)) fun h=>k f h) (Nat.ble (Nat.succ n) (eZ m))) t)
  obtain⟨le,t⟩:=ae t
  have le:=bS le
  rw[eJ] at le
  rw[bl,jt] at t
  apply G;exact .inl ⟨m,n,go,hw,le,t⟩
 ·rename_i m
  refine eE1 (fun c=>aA2 fun hw t=>?_) (aG (k:=fun s=>small (dput s x m) (aX H i (.dict (dput s x m)) fun h=>k f h)) t)
  obtain⟨ln,t⟩:=aA (l:=dput c x m) (k:=aX H i (.dict (dput c x m)) fun h=>k f h) t
  rw[bl] at t
  apply G;exact .inr ⟨m,c,go,hw,ln,t⟩
theorem EC {a b:CX}{e1 e2:Expr}{pos:Pos}(ha:SX W sc a e1)(hb:SX W sc b e2):STg W sc (GX a b) (.Subscript e1 e2 pos):=fun r d A fs env f ι H s v x k e h rv t=>by
 refine dN (wpAny_mono (ha r d A fs env f ι H s _ _ h t) (fun ov s1 P=>?_) fun U U z=>z.px h.fr)
 refine bC fun G=>?_;obtain⟨ι1,H1,y,S1,E1,rv1,t⟩:=P
 have h1:=h.next S1 E1
 apply G;refine wpAny_mono (hb r d A fs env f ι1 H1 s1 _ _ h1 t) (fun iv s2 P=>?_) fun U U z=>(z.px h1.fr).from E1.atl
 refine bC fun G=>?_;obtain⟨ι2,H2,z,S2,E2,rv2,t⟩:=P
 refine eE1 (fun i=>aA2 fun hy t=>?_) (br (k:=fun i=>aL H2 i fun ob=>aW (bO false (fun m=>ed z fun s=>small (dput s x m) (aX H2 i (.dict (dput s x m)) fun h=>k f h)) ob) (fun m=>nat? z fun n=>@Bool.rec (fun U=>Bool) false (aX H2 i (.list (lU x m n)) fun h=>k f h) (Nat.ble (Nat.succ n) (eZ m))) ob) t)
 subst hy
 have rv':=(rv.ext E1).ext E2
 have F2:=(h.fr.ext E1 id).ext E2 id
 refine oO (eE2 fun m n=>aA4 fun go hw lt t'=>?_) (eE2 fun m c=>aA4 fun go hw ln' t'=>?_) (vp t)<;>subst hw
 ·refine eE1 (fun p=>aA3 fun ep q z35r=>?_) (S2.get (rv1.ext E2) go);obtain⟨eq,ln,vs,n0,g,rvs⟩:=z35r
  subst q
  have len:=rvs.length
  simp only[Array.length_toList] at len
  obtain⟨t2,rfl⟩:=rv2.inv;next =>
  obtain⟨⟨n',g'⟩,sb⟩:=ba g (fun xs=>xs.setIfInBounds n v)
  apply G;refine gk g (by simp only[Int.ofNat_eq_natCast];omega) (by simp only[Int.ofNat_eq_natCast];omega) (by simp only[Int.ofNat_eq_natCast];omega) ?_
  obtain⟨S3,E3⟩:=iA S2 ep go g' sb (l':=m.set n x) (by rw[List.length_set];exact ln) (by simpa using rvs.set n rv') (tk:=s2.toks) (dr:=s2.drawn)
  exact⟨ι2,_,f,S3,((E1.trans E2).trans E3).atl,F2.ext E3 id,t'⟩
 ·refine eE1 (fun p=>aA3 fun ep q z39r=>?_) (S2.get (rv1.ext E2) go);obtain⟨eq,ln,kvs,gd,rk⟩:=z39r
  subst q
  refine eE2 (fun U t2=>aA2 fun z40q2 hs=>?_) (rv2.inv);obtain rfl:=z40q2;next =>
  have nd:(kvs.map (·.1)).Nodup:=by revert gd;refine eE3 fun U U U=>aA6 fun U U U U U z=>?_;exact z
  apply G;refine wpAny_setItem_pairs (knd:=W.sk) (nU W _ t2) gd (fun h' gd' sb=>?_) (by have:=rk.length;unfold sizeLine;omega)
  obtain⟨S3,E3⟩:=gZ S2 ep go gd' sb ln' (RK.stored hs rv' rk nd) (tk:=s2.toks+1) (dr:=s2.drawn)
  exact⟨ι2,_,f,S3,((E1.trans E2).trans E3).atl,F2.ext E3 id,t'⟩
end
def STs (W:Wd)(sc:Sc)(ts:CTs)(es:List Expr):Prop:=∀ (r:Rt)(d:Nat)(A:Around)(fs:List Env)(env:Env)(f:Fm)(ι:Io)(H:Hp)(s:Shared)(vs:List Value)(xs:List Vl)(k:KF)(e:KX),
 Here W sc r d A fs env f ι H s→RVs W ι s.heap vs xs→ts r f xs H k e=true→wpAny (model W.prog W.w) A (assignInOrder ((assignEach es env).map (·.2)) vs) (PF W sc fs env ι s k) (PXE W sc fs env ι s e) s
def SS (W:Wd)(sc:Sc)(c:CS)(st:Stmt):Prop:=∀ (r:Rt)(d:Nat)(A:Around)(fs:List Env)(env:Env)(f:Fm)(ι:Io)(H:Hp)(s:Shared)(kn kc:KF)(kr:KV)(ke:KX),
 Here W sc r d A fs env f ι H s→c r f H kn kc kr ke=true→wpAny (model W.prog W.w) A (exec st env) (PS W sc fs env ι s kn kc kr) (PXE W sc fs env ι s ke) s
def SSs (W:Wd)(sc:Sc)(c:CS)(b:List Stmt):Prop:=∀ (r:Rt)(d:Nat)(A:Around)(fs:List Env)(env:Env)(f:Fm)(ι:Io)(H:Hp)(s:Shared)(kn kc:KF)(kr:KV)(ke:KX),
 Here W sc r d A fs env f ι H s→c r f H kn kc kr ke=true→wpAny (model W.prog W.w) A (execs b env) (PS W sc fs env ι s kn kc kr) (PXE W sc fs env ι s ke) s
def SSA (W:Wd)(sc:Sc)(r:Rt)(d:Nat)(c:CS)(st:Stmt):Prop:=∀ (A:Around)(fs:List Env)(env:Env)(f:Fm)(ι:Io)(H:Hp)(s:Shared)(kn kc:KF)(kr:KV)(ke:KX),
 Here W sc r d A fs env f ι H s→c r f H kn kc kr ke=true→wpAny (model W.prog W.w) A (exec st env) (PS W sc fs env ι s kn kc kr) (PXE W sc fs env ι s ke) s
def wY (W:Wd)(sc:Sc)(r:Rt)(d:Nat)(c:CS)(b:List Stmt):Prop:=∀ (A:Around)(fs:List Env)(env:Env)(f:Fm)(ι:Io)(H:Hp)(s:Shared)(kn kc:KF)(kr:KV)(ke:KX),
 Here W sc r d A fs env f ι H s→c r f H kn kc kr ke=true→wpAny (model W.prog W.w) A (execs b env) (PS W sc fs env ι s kn kc kr) (PXE W sc fs env ι s ke) s
section
variable {W:Wd}{sc:Sc}
theorem Bo:STs W sc BW []:=fun r d A fs env f ι H s vs xs k e h rvs t=>by
 cases xs with
 | cons _ _=>exact ft t
 | nil =>
  cases rvs
  exact wpAny_assignInOrder_none ⟨ι,H,f,h.st,.refl,h.fr,t⟩
theorem wK (ht:STg W sc t e1)(hs:STs W sc ts es)(he:∀ env,assignEach (e1 :: es) env=(false,assign e1 env) :: assignEach es env:=by intros;rfl):STs W sc (sC t ts) (e1 :: es):=fun r d A fs env f ι H s vs xs k e h rvs tt=>by
 cases xs with
 | nil=>exact ft tt
 | cons x xs =>
  cases rvs with
  | cons rv rvs =>
   rw[he]
   refine wpAny_assignInOrder_more (wpAny_mono (ht r d A fs env f ι H s _ x _ e h rv tt) (fun u s1 P=>?_) fun U U z=>z)
   obtain⟨ι1,H1,f1,S1,E1,F1,t⟩:=P
   exact wpAny_mono (hs r d A fs env f1 ι1 H1 s1 _ xs k e (h.with S1 F1) (rvs.ext E1) t) (fun U U z=>z.from E1) fun U U z=>z.from E1
set_option tactic.hygienic true in
theorem mq {v:Vl}{n:Nat}{k:List Vl→Bool}(t:(eY false (fun l=>@Bool.rec (fun U=>Bool) false (k l) (Nat.beq (eZ l) n)) v)=true):∃ l,v = .tup l∧l.length=n∧k l=true:=by
 cases v<;>first | exact nf t | exact ns t | skip
 rename_i l
 obtain⟨e,t⟩:=ae (k:=k l) t
 rw[eJ] at e
 exact⟨l,rfl,aD e,t⟩
theorem v5 {n:Nat}{ts:CTs}{es:List Expr}{k1:Nat}{pos:Pos}(hs:STs W sc ts es)(hn:∀ env,(assignEach es env).length=n)(hst:∀ env,(assignEach es env).findIdx? (·.1)=none):STg W sc (Dp n ts) (.Tuple es k1 pos):=fun r d A fs env f ι H s v x k e h rv t=>by
 refine bC fun G=>?_;refine eE1 (fun l=>aA3 fun hx ln t'=>?_) (mq (k:=fun l=>ts r f l H k e) t)
 subst hx;clear t;have t:=t'
 refine eE3 (fun U U U=>aA5 fun z4q3 g le rvs U=>?_) (rv.inv);obtain rfl:=z4q3;apply G;next =>
  have len:=rvs.length
  simp only[Array.length_toList] at len
  refine assign_Tuple_tuple h.ar.handled ⟨_,g,rfl,_,rfl⟩ (by rw[hn,len,ln]) (hst env) fun h' eb=>?_
  have K:∀ b o,s.heap.get? b=some o→h'.get? b=some o:=fun b o g=>eb b o (fun z=>by rw[z,aw (Nat.le_refl _)] at g;exact zns g) g
  have S1:=h.st.keeps K (tk:=s.toks) (dr:=s.drawn)
  have E1:Ext W noX ι s.heap ι h':=.of_keeps K
  exact wpAny_mono (hs r d A fs env f ι H _ _ l k e (h.next S1 E1) (rvs.ext E1) t) (fun U U z=>PF.from E1.atl z) fun U U z=>PXE.from E1.atl z
theorem DM:SSs W sc wA []:=fun r d A fs env f ι H s kn kc kr ke h t=>wpAny_execs_nil ⟨ι,H,f,h.st,.refl,h.fr,t⟩
theorem AZ {pos}:SS W sc wA (.Pass pos):=fun r d A fs env f ι H s kn kc kr ke h t=>wpAny_Pass ⟨ι,H,f,h.st,.refl,h.fr,t⟩
theorem B2 {pos}:SS W sc xu (.Continue pos):=fun r d A fs env f ι H s kn kc kr ke h t=>wpAny_Continue ⟨ι,H,f,h.st,.refl,h.fr,t⟩
theorem EL {st}:SS W sc iK st:=fun r d A fs env f ι H s kn kc kr ke h t=>nomatch t
theorem tT {c:CS}{st:Stmt}(h1:SS W sc c st):SSs W sc c [st]:=fun r d A fs env f ι H s kn kc kr ke h t=>by
 refine wpAny_execs_cons (wpAny_mono (h1 r d A fs env f ι H s kn kc kr ke h t) (fun fl s1 P=>?_) fun U U z=>z)
 cases fl with
 | next=>exact wpAny_execs_nil P
 | _=>exact P
theorem jc {r:Rt}{d:Nat}{a b:CS}{st:Stmt}{rest:List Stmt}(h1:SSA W sc r d a st)(h2:wY W sc r d b rest):wY W sc r d (n9 a b) (st :: rest):=fun A fs env f ι H s kn kc kr ke h t=>by
 refine wpAny_execs_cons (wpAny_mono (h1 A fs env f ι H s (fun f h=>b r f h kn kc kr ke) kc kr ke h t) (fun fl s1 P=>?_) fun U U z=>z)
 cases fl with
 | next =>
  obtain⟨ι1,H1,f1,S1,E1,F1,t⟩:=P
  exact wpAny_mono (h2 A fs env f1 ι1 H1 s1 kn kc kr ke (h.with S1 F1) t) (fun U U z=>z.from E1) fun U U z=>z.from E1
 | _=>exact P.as id
theorem za {a b:CS}{st:Stmt}{rest:List Stmt}(h1:SS W sc a st)(h2:SSs W sc b rest):SSs W sc (n9 a b) (st :: rest):=fun r d=>jc (h1 r d) (h2 r d)
theorem HC (hc:ST W sc c e1)(ha:SSs W sc a b1)(hb:SSs W sc b b2):SS W sc (Hx c a b) (.If e1 b1 b2 pos):=fun r d A fs env f ι H s kn kc kr ke h t=>by
 refine wpAny_If (wpAny_mono (hc r d A fs env f ι H s (fun h=>a r f h kn kc kr ke) (fun h=>b r f h kn kc kr ke) (fun i h=>ke i f h) h t) (fun bb s1 P=>?_) fun U U z=>z.px h.fr)
 obtain⟨ι1,H1,S1,E1,t⟩:=P
 have h1:=h.next S1 E1
 cases bb
 ·exact wpAny_mono (hb r d A fs env f ι1 H1 s1 kn kc kr ke h1 t) (fun U U z=>z.from E1.atl) fun U U z=>z.from E1.atl
 ·exact wpAny_mono (ha r d A fs env f ι1 H1 s1 kn kc kr ke h1 t) (fun U U z=>z.from E1.atl) fun U U z=>z.from E1.atl
theorem vU (hx:SX W sc x e1):SS W sc (kg x) (.Return (some e1) pos):=fun r d A fs env f ι H s kn kc kr ke h t=>by
 refine wpAny_Return_some (wpAny_mono (hx r d A fs env f ι H s kr (fun i h=>ke i f h) h t) (fun v s1 P=>?_) fun U U z=>z.px h.fr)
 obtain⟨ι1,H1,y,S1,E1,rv,t⟩:=P
 exact⟨ι1,H1,f,S1,E1.atl,h.fr.ext E1 id,y,rv,t⟩
theorem By:SS W sc (kg (xk .none)) (.Return none pos):=fun r d A fs env f ι H s kn kc kr ke h t=>wpAny_Return_none ⟨ι,H,f,h.st,.refl,h.fr,.none,.none,t⟩
theorem wZ (ht:STg W sc t tg)(hx:SX W sc x e1)(he:∀ env,(assignEach [tg] env).map (·.2)=[assign tg env]:=by intros;rfl)
  (h1:∀ env line,swapsWithSole [tg] e1 line env=pure false:=by intros;rfl)(h2:∀ env:Env,env.scope.names=sc.names→env.scope.kind = .function→swappedStores [tg] e1 env=pure none:=by intros;rfl):SS W sc (qG t x) (.Assign [tg] e1 pos):=fun r d A fs env f ι H s kn kc kr ke h tt=>by
 refine wpAny_Assign_stores (wpAny_mono (hx r d A fs env f ι H s _ _ h tt) (fun v s1 P=>?_) fun U U z=>z.px h.fr) (h1 env _) (h2 env h.eo.names h.eo.kind)
 obtain⟨ι1,H1,y,S1,E1,rv,t'⟩:=P
 rw[he]
 exact wpAny_mono (ht r d A fs env f ι1 H1 s1 v y kn ke (h.next S1 E1) rv t') (fun u s2 P=>by
  obtain⟨ι2,H2,f2,S2,E2,F2,t2⟩:=P
  exact⟨ι2,H2,f2,S2,E1.atl.trans E2,F2,t2⟩) fun U U z=>z.from E1.atl
end
def iy (h₀ : Heap):Addr→Prop:=fun b=>h₀.get? b=none
section
variable {W:Wd}{sc:Sc}{fs:List Env}{env:Env}{f:Fm}{ι ι' ι0:Io}{H H':Hp}{s s' s2:Shared}{h₀ : Heap}{A:Around}{M:Model}{E:Value→Shared→Prop}{X:Addr→Prop}
theorem aS.locals (F:aS W sc env ι s.heap f):s.heap.get? env.locals≠none:=by
 refine eE1 (fun m=>aA2 fun z1q1 U=>?_) (F.ns);revert z1q1;refine eE3 fun o es ep=>aA2 fun g U=>?_
 rw[g];exact fun z=>nomatch z
theorem aS.way (F:aS W sc env ι s.heap f)(E:Ext W (iy h₀) ι s.heap ι' s'.heap)(q:h₀.get? env.locals≠none):aS W sc env ι' s'.heap f:=F.ext E q
theorem Ext.way (E0:Ext W X ι0 h₀ ι s.heap)(E:Ext W (iy h₀) ι s.heap ι' s'.heap):Ext W X ι0 h₀ ι' s'.heap:=by
 have:=(E0.weaken (Y:=fun b=>X b∨iy h₀ b) fun b z=>.inl z).trans (E.weaken (Y:=fun b=>X b∨iy h₀ b) fun b z=>.inr z)
 exact this.drop fun b z=>z
theorem St.He (S:St W fs ι H s)(g:s.heap.get? T=some oT)(cT:oT.cls = .type "traceback")(d:oT.data = .fields ts)(nb:W.base.get? T=none)(no:¬ Own W ι T)(n0:h₀.get? T=none)(v:Value) :
  St W fs ι H ⟨s.heap.update T (Obj.mapFields (·.setIfInBounds 3 v)),s.gens,dr,tk,s.os⟩∧Ext W (iy h₀) ι s.heap ι (s.heap.update T (Obj.mapFields (·.setIfInBounds 3 v))):=by
 have nf:T∉frs fs:=fun m=>by
  refine eE3 (fun o es n=>aA2 fun g2 d2=>?_) (S.frd T m)
  rw[g] at g2;replace g2:=ab g2;subst g2
  rw[d] at d2;injection d2
 have d':=Obj.data_mapFields d (·.setIfInBounds 3 v)
 have g':=Heap.get?_update_self (Obj.mapFields (·.setIfInBounds 3 v)) g (Obj.isFreed_of_fields d')
 obtain⟨S2,E2⟩:=S.other nb no (Heap.SameBut.update s.heap T (Obj.mapFields (·.setIfInBounds 3 v))).extBut (fun o g2=>by
  rw[g] at g2;replace g2:=ab g2;subst g2
  exact⟨(fun z U=>TC.ne cT (by decide) (by decide) z),_,g',fun m=>absurd m nf⟩) (tk:=tk) (dr:=dr)
 exact⟨S2,E2.weaken fun b z=>by subst z;exact n0⟩
theorem fB (S:St W fs ι H s)(Tr:Traced s.heap e T fl)(nb:W.base.get? T=none)(no:¬ Own W ι T)(n0:h₀.get? T=none)(fr:Option Addr)
  (h:∀ s',St W fs ι H s'→Ext W (iy h₀) ι s.heap ι s'.heap→Traced s'.heap e T (fr.elim Value.none fun f=>rawInt f)→Q () s'):wpAny M A (setFlight (.ref e) fr) Q E s:=by
 obtain⟨⟨oe,vs,ge,de,h1⟩,⟨oT,ts,gT,cT,dT,h3⟩,ne⟩:=Tr
 obtain⟨S2,E2⟩:=S.He (h₀:=h₀) gT cT dT nb no n0 (fr.elim Value.none fun f=>rawInt f) (tk:=s.toks) (dr:=s.drawn)
 have d':=Obj.data_mapFields dT (·.setIfInBounds 3 (fr.elim Value.none fun f=>rawInt f))
 have g':=Heap.get?_update_self (Obj.mapFields (·.setIfInBounds 3 (fr.elim Value.none fun f=>rawInt f))) gT (Obj.isFreed_of_fields d')
 unfold setFlight
 refine wpAny_bind (wpAny_field ge de (x:=.ref T) h1 ?_)
 rw[if_pos (show(Value.ref T != Value.none)=true from by simp)]
 have lt:=(Array.getElem?_eq_some_iff.mp h3).1
 refine wpAny_setField gT dT lt (h _ S2 E2 ⟨⟨oe,vs,(Heap.get?_update_other _ _ ne).trans ge,de,h1⟩,⟨_,_,g',(Obj.cls_mapFields _ _).trans cT,d',?_⟩,ne⟩)
 simp[lt]
theorem iS (d:o.data = .fields vs)(g:Array Value→Array Value)(h:notCls o=true):notCls (o.mapFields g)=true:=by
 obtain⟨c,dd,da,sl⟩:=o
 simp only at d;subst d
 exact h
theorem j6 (o:Obj)(g:Array Value→Array Value):(o.mapFields g).dict=o.dict:=by
 obtain⟨c,dd,da,sl⟩:=o
 cases da<;>rfl
theorem Ah (d:o.data = .fields vs)(hk:k≠2∨1000≤c)(h:OkI c o)(lt:c < 1000)(us:Array Value)(e:(o.mapFields (·.setIfInBounds k v)).data = .fields us):us[2]? = some .none:=by
 rw[Obj.data_mapFields d] at e
 replace e:=PySem.Data.fields.inj e;subst e
 rcases hk with hk | hk
 ·have:=h.2 lt vs d
  rw[Array.getElem?_setIfInBounds,if_neg hk];exact this
 ·omega
set_option tactic.hygienic true in
theorem St.An (S:St W fs ι H s)(ep:ι i=some p)(g:s.heap.get? p.1=some oe)(d:oe.data = .fields vs)(k:Nat)(v:Value)(hk:k≠2∨∀ c l,H.t.get i=some (.inst c l)→1000≤c:=by exact .inl (by decide)){tk:Nat}{dr:Drawn} :
  St W fs ι H ⟨s.heap.update p.1 (Obj.mapFields (·.setIfInBounds k v)),s.gens,dr,tk,s.os⟩∧Ext W noX ι s.heap ι (s.heap.update p.1 (Obj.mapFields (·.setIfInBounds k v))):=by
 refine aA2 (fun U=>eE1 fun ob go=>?_) (S.dom _ _ ep)
 have r:=S.ro ep go
 have d':=Obj.data_mapFields d (·.setIfInBounds k v)
 have g':=Heap.get?_update_self (Obj.mapFields (·.setIfInBounds k v)) g (Obj.isFreed_of_fields d')
 cases ob with
 | inst c l =>
  refine bC fun G=>?_;obtain⟨ln,ne,C,o,kvs,hC,g2,hc,hd,hn,gd,rk⟩:=r
  rw[g] at g2;replace g2:=ab g2;subst g2
  have sb:=Heap.SameBut.update s.heap p.1 (Obj.mapFields (·.setIfInBounds k v))
  obtain⟨S2,E2⟩:=S.upd (o:=.inst c l) ep (.inl rfl) sb ⟨_,g'⟩ (fun tk=>⟨ln,ne,C,_,kvs,hC,g',(Obj.cls_mapFields _ _).trans hc,(j6 _ _).trans hd,⟨iS d _ hn.1,fun lt us e=>Ah d (hk.imp_right fun z=>z c l go) hn lt us e⟩,gd.sameBut sb ne,rk.mono (Sub.refl _) tk⟩) (tk:=tk) (dr:=dr)
  have eH:∀ j,(H.set i (.inst c l)).t.get j=H.t.get j:=fun j=>by
   show(H.t.set (.inst c l) i).get j=_
   rw[Tri.get_set]
   split
   ·rename_i z;rw[z,go]
   ·rfl
  apply G;exact⟨⟨S2.bo,S2.bp,S2.mods,S2.ground,S2.old,S2.lim,S2.frames,S2.frd,fun j o e=>S2.live j o (by rw[eH];exact e),fun j q e=>by
   refine aA2 (fun a=>eE1 fun o b=>?_) (S.dom j q e)
   exact⟨a,o,b⟩,S2.apart,S2.fresh,S2.aF,S2.src,S2.gens,S2.os,S2.tabs⟩,E2⟩
 | list l=>refine bC fun G=>?_;obtain⟨_,_,_,_,g2,_⟩:=r;have g2:=g.symm.trans g2;replace g2:=ab g2;subst g2;injection d
 | dict l=>refine bC fun G=>?_;obtain⟨_,_,_,⟨_,_,_,g2,_,d2,_⟩,_⟩:=r;rw[g] at g2;replace g2:=ab g2;subst g2;rw[d] at d2;injection d2
 | cell v=>refine bC fun G=>?_;obtain⟨_,_,_,g2,_,d2,_⟩:=r;rw[g] at g2;replace g2:=ab g2;subst g2;rw[d] at d2;injection d2
 | cL f js=>obtain⟨_,_,_,g2,_,d2,_⟩:=r;rw[g] at g2;replace g2:=ab g2;subst g2;rw[d] at d2;injection d2
 | eW=>revert r;refine aA2 fun U=>eE2 fun U U g2=>?_;have g2:=g.symm.trans g2;replace g2:=ab g2;subst g2;injection d
theorem mX (hfr:A.frames=some (e0 :: outer))(hl:s.heap.FunFrames base (e0 :: outer))
  (hf0:e0.frame=some L)(hf:env.frame=some L)(h:∀ h',Heap.SlotsOnly (frs (e0 :: outer)) s.heap h'→Q (.ref L) { s with heap:=h' }):wpAny M A (PySem.frameOf env) Q E s:=by
 unfold PySem.frameOf
 refine wpAny_bind (wpAny_frameEnvs hfr ?_)
 have hdw:((e0 :: outer).dropWhile fun x=>x.frame != env.frame)=e0 :: outer:=by simp[List.dropWhile,hf0,hf]
 rw[hdw]
 unfold frameObject
 refine wpAny_bind (wpAny_bind (wpAny_readyFrames_fun hl fun h₁ hs₁=>wpAny_pure ?_))
 rw[hf0]
 exact wpAny_pure (h h₁ hs₁)
theorem tR (hfs:fs=e0 :: outer)(hfr:A.frames=some fs)(hf0:e0.frame=some L)(hf:env.frame=some L)(S:St W fs ι H s)(ep:ι i=some p)
  {oe:Obj}{vs:Array Value}(g:s.heap.get? p.1=some oe)(d:oe.data = .fields vs)(sz:1 < vs.size){head:Value}{hadNext:Bool}{Q:Unit→Shared→Prop}
  (h:∀ s' T,St W fs ι H s'→Ext W noX ι s.heap ι s'.heap→Traced s'.heap p.1 T (rawInt L)→s.heap.get? T=none→W.base.get? T=none→¬ Own W ι T→Q () s') :
  wpAny M A (do let a ← PySem.frameOf env;let pl ← entryPlaceOf L hadNext;let b ← EntryCells.newEntry head a .none (rawInt L) .none pl;setField (.ref p.1) 1 b) Q E s:=by
 subst hfs
 refine wpAny_bind (mX hfr S.frames hf0 hf fun h₁ hs₁=>?_)
 obtain⟨S1,E1⟩:=S.slots hs₁ (tk:=s.toks) (dr:=s.drawn)
 refine wpAny_bind (wpAny_entryPlaceOf fun pl hpl=>?_)
 unfold EntryCells.newEntry newFields
 refine wpAny_bind (wpAny_newObj_type ?_ (hpl.sizeOk5 _ _ _ _ _))
 have nm:p.1∉frs (e0 :: outer):=(S.fresh p.1 (.inr ⟨i,p,ep,.inl rfl⟩)).2
 have g₁ : h₁.get? p.1=some oe:=(hs₁.2.1 p.1 nm).trans g
 have K:=aj h₁ { cls:=.type "traceback",dict:=none,data:=.fields ([head,.ref L,.none,rawInt L,.none]++(if pl.isEmpty then List.replicate 6 Value.none else pl)).toArray }
 have S2:=S1.keeps K (tk:=s.toks) (dr:=s.drawn)
 have g₂:=K _ _ g₁
 have hT2:=Heap.get?_push_size h₁ (o:={ cls:=.type "traceback",dict:=none,data:=.fields ([head,.ref L,.none,rawInt L,.none]++(if pl.isEmpty then List.replicate 6 Value.none else pl)).toArray }) rfl
 obtain⟨S3,E3⟩:=S2.An ep g₂ d 1 (.ref h₁.objs.size) (tk:=s.toks) (dr:=s.drawn)
 have d₃:=Obj.data_mapFields d (·.setIfInBounds 1 (Value.ref h₁.objs.size))
 have g₃:=Heap.get?_update_self (Obj.mapFields (·.setIfInBounds 1 (Value.ref h₁.objs.size))) g₂ (Obj.isFreed_of_fields d₃)
 have ne:h₁.objs.size≠p.1:=Nat.ne_of_gt (Heap.lt_size g₁)
 have nT:h₁.get? h₁.objs.size=none:=aw (Nat.le_refl _)
 have E13:Ext W noX ι s.heap ι ((h₁.push { cls:=.type "traceback",dict:=none,data:=.fields ([head,.ref L,.none,rawInt L,.none]++(if pl.isEmpty then List.replicate 6 Value.none else pl)).toArray }).update p.1 (Obj.mapFields (·.setIfInBounds 1 (Value.ref h₁.objs.size)))):=E1.trans ((Ext.of_keeps K).trans E3)
 refine wpAny_setField g₂ d sz (h _ h₁.objs.size S3 E13 ⟨⟨_,_,g₃,d₃,by simp[sz]⟩,⟨_,_,(Heap.get?_update_other _ _ (Ne.symm ne)).trans hT2,rfl,rfl,?_⟩,ne⟩ ?_ ?_ ?_)
 ·rcases hpl with rfl | ⟨_,_,_,_,_,_,_,rfl⟩<;>simp
 ·exact E1.none nT
 ·exact S1.dg nT
 ·intro o
  obtain⟨x,gx⟩:=S1.iH o
  rw[show(⟨h₁,s.gens,s.drawn,s.toks,s.os⟩:Shared).heap=h₁ from rfl,nT] at gx
  exact zns gx
theorem vy (L:Addr):¬ ((Value.none == rawInt L)=true):=by simp[rawInt]
theorem note (eo:bR W sc env fs)(hfr:A.frames=some fs)(S:St W fs ι H s)(E0:Ext W X ι0 h₀ ι s.heap)(ep:ι i=some p)(t:iY W h₀ ι s.heap p.1 (kO env))
  (h:∀ s' T L,env.frame=some L→St W fs ι H s'→Ext W (iy h₀) ι s.heap ι s'.heap→Traced s'.heap p.1 T (rawInt L)→h₀.get? T=none→W.base.get? T=none→¬ Own W ι T→Q () s'):wpAny M A (noteFrame (.ref p.1) env) Q E s:=by
 refine eE3 (fun L e0 r=>aA3 fun hL hfs he0=>?_) (eo.frame)
 unfold noteFrame
 simp only[hL]
 refine bC fun G=>?_;rcases t with ⟨oe,vs,g,d,h1⟩| ⟨T,fl,⟨⟨oe,vs,g,d,h1⟩,⟨oT,ts,gT,cT,dT,h3⟩,ne⟩,hfl,n0,nb,no⟩
 ·apply G;refine wpAny_bind (wpAny_field g d h1 ?_)
  rw[if_neg (by decide)]
  exact tR hfs hfr he0 hL S ep g d (Array.getElem?_eq_some_iff.mp h1).1 fun s' T S' E' Tr n nb no=>h s' T L hL S' (E'.weaken fun U z=>z.elim) Tr (E0.none n) nb no
 ·apply G;refine wpAny_bind (wpAny_field g d h1 ?_)
  rw[if_pos (show(Value.ref T != Value.none)=true from by simp)]
  refine wpAny_bind (wpAny_field gT dT h3 ?_)
  refine bC fun G=>?_;rcases hfl with rfl | ⟨L',hL',rfl⟩
  ·apply G;rw[if_neg (vy L)]
   obtain⟨S1,E1⟩:=S.He (h₀:=h₀) gT cT dT nb no n0 .none (tk:=s.toks) (dr:=s.drawn)
   refine wpAny_bind (wpAny_setField gT dT (Array.getElem?_eq_some_iff.mp h3).1 ?_)
   have g1:=(Heap.get?_update_other s.heap (Obj.mapFields (·.setIfInBounds 3 Value.none)) ne).trans g
   exact tR hfs hfr he0 hL S1 ep g1 d (Array.getElem?_eq_some_iff.mp h1).1 fun s' T' S' E' Tr n nb' no'=>h s' T' L hL S' (E1.trans (E'.weaken fun U z=>z.elim)) Tr (E0.none (E1.none n)) nb' no'
  ·rw[hL] at hL';replace hL':=ab hL';subst hL'
   apply G;rw[if_pos (beq_self_eq_true _)]
   exact wpAny_pure (h s T L hL S .refl ⟨⟨oe,vs,g,d,h1⟩,⟨oT,ts,gT,cT,dT,h3⟩,ne⟩ n0 nb no)
theorem leave (eo:bR W sc env fs)(hfr:A.frames=some fs)(S:St W fs ι H s)(E0:Ext W X ι0 h₀ ι s.heap)(ep:ι i=some p)(t:iY W h₀ ι s.heap p.1 (kO env))
  (h:∀ s',St W fs ι H s'→Ext W (iy h₀) ι s.heap ι s'.heap→iY W h₀ ι s'.heap p.1 GW→Q () s'):wpAny M A (leaving env (.ref p.1)) Q E s:=by
 unfold leaving
 refine wpAny_bind (note eo hfr S E0 ep t fun s1 T L hL S1 E1 Tr n0 nb no=>?_)
 exact fB S1 Tr nb no n0 none fun s2 S2 E2 Tr2=>h s2 S2 (E1.trans E2) (.inr ⟨T,_,Tr2,rfl,n0,nb,no⟩)
theorem oH (eo:bR W sc env fs)(hfr:A.frames=some fs)(S:St W fs ι H s)(E0:Ext W X ι0 h₀ ι s.heap)(ep:ι i=some p)(t:iY W h₀ ι s.heap p.1 (kO env))
  (h:∀ s',St W fs ι H s'→Ext W (iy h₀) ι s.heap ι s'.heap→iY W h₀ ι s'.heap p.1 (kO env)→E' (.ref p.1) s'):notedBy M A env (cameBackBy M A' env E') (.ref p.1) s:=by
 unfold notedBy
 refine note eo hfr S E0 ep t fun s1 T L hL S1 E1 Tr n0 nb no=>?_
 unfold cameBackBy
 refine bC fun G=>?_;obtain⟨⟨oe,vs,g,d,h1⟩,_⟩:=id Tr
 apply G;refine wpAny_bind (wpAny_field g d h1 ?_)
 rw[if_neg (by simp)]
 exact fB S1 Tr nb no n0 env.frame fun s2 S2 E2 Tr2=>h s2 S2 (E1.trans E2) (.inr ⟨T,_,Tr2,.inr ⟨L,hL,by rw[hL];rfl⟩,n0,nb,no⟩)
end
section
variable {W:Wd}{sc:Sc}
theorem qe (h:Here W sc r d A fs env f ι H s)(p:PXE W sc fs env ι s ke v s2):notedBy M A env (cameBackBy M A' env (PXE W sc fs env ι s ke)) v s2:=by
 obtain⟨ι2,H2,f2,i,p,rfl,ep,S2,E2,F2,t,k⟩:=p
 refine oH h.eo h.ar.frames S2 E2 ep t fun s3 S3 E3 t3=>?_
 exact⟨ι2,H2,f2,i,p,rfl,ep,S3,Ext.way E2 E3,F2.way E3 h.fr.locals,t3,k⟩
def whN (c:CX)(b:CS)(r:Rt)(kn:KF)(kr:KV)(ke:KX)(n:Nat):Fm→Hp→Bool:=@Nat.rec (fun U=>Fm→Hp→Bool) (fun U U=>false) (fun U ih f h=>c r f h (fun v h=>ifV v (b r f h (fun f h=>ih f h) (fun f h=>ih f h) kr ke) (kn f h)) (fun i h=>ke i f h)) n
theorem vX (hc:ST W sc c e1)(hb:SSs W sc b body):SS W sc (Ha c b) (.While e1 body [] pos):=fun r d A fs env f ι H s kn kc kr ke h t=>by
 refine wpAny_While (codeAny_whileLoop (I:=fun n s'=>∃ ι' H' f',St W fs ι' H' s'∧Ext W (atL env) ι s.heap ι' s'.heap∧aS W sc env ι' s'.heap f'∧whN c b r kn kr ke n f' H'=true) (fun n s1 I1=>?_) 4000 ⟨ι,H,f,h.st,.refl,h.fr,t⟩)
 revert I1;refine eE3 fun ι1 H1 f1=>aA4 fun S1 E1 F1 t=>?_
 have h1:=h.with S1 F1
 cases n with
 | zero=>exact ft t
 | succ n =>
  have out:∀ v s2,PXE W sc fs env ι1 s1 ke v s2→notedBy (model W.prog W.w) A env (cameBackBy (model W.prog W.w) A env (PXE W sc fs env ι s ke)) v s2:=fun v s2 z=>qe h (z.from E1)
  refine wpAny_mono (hc r d A fs env f1 ι1 H1 s1 (fun h=>b r f1 h (fun f h=>whN c b r kn kr ke n f h) (fun f h=>whN c b r kn kr ke n f h) kr ke) (fun h=>kn f1 h) (fun i h=>ke i f1 h) h1 t) (fun bb s2 P=>?_) fun v s2 z=>out v s2 (z.px F1)
  obtain⟨ι2,H2,S2,E2,t2⟩:=P
  cases bb
  ·exact wpAny_execs_nil ⟨ι2,H2,f1,S2,E1.trans E2.atl,F1.ext E2 id,t2⟩
  ·refine wpAny_mono (hb r d A fs env f1 ι2 H2 s2 _ _ kr ke (h1.next S2 E2) t2) (fun fl s3 P=>?_) fun v s3 z=>out v s3 (z.from E2.atl)
   obtain⟨ι3,H3,f3,S3,E3,F3,t3⟩:=P
   have E13:=E1.trans (E2.atl.trans E3)
   cases fl with
   | next=>exact⟨n,Nat.lt_succ_self n,ι3,H3,f3,S3,E13,F3,t3⟩
   | cont=>exact⟨n,Nat.lt_succ_self n,ι3,H3,f3,S3,E13,F3,t3⟩
   | brk=>exact t3.elim
   | ret v=>exact⟨ι3,H3,f3,S3,E13,F3,t3⟩
end
inductive ay (h:Heap)(i src:Addr)(n:Nat)(items:Array Value):Prop
 | list:h.IsListIter i src n→h.IsList src items→ay h i src n items
 | tup:h.IsTupleIter i src n→h.IsTuple src items→ay h i src n items
theorem ay.extBut {h h':Heap}{a i src:Addr}{n:Nat}{items:Array Value}(x:ay h i src n items)(hs:Heap.ExtBut a h h')(h1:i≠a)(h2:src≠a):ay h' i src n items:=by
 cases x with
 | list a b=>exact .list (a.extBut hs h1) (b.extBut hs h2)
 | tup a b =>
  revert a;refine eE1 fun o=>aA2 fun g r=>?_
  revert b;refine eE1 fun o2=>aA2 fun g2 r2=>?_
  exact .tup ⟨o,hs _ _ h1 g,r⟩ ⟨o2,hs _ _ h2 g2,r2⟩
theorem ay.at {h:Heap}{i src:Addr}{n:Nat}{items:Array Value}(x:ay h i src n items):∃ o,h.get? i=some o:=by
 cases x with
 | list a b=>revert a;refine eE1 fun o=>aA2 fun g U=>?_;exact⟨o,g⟩
 | tup a b=>revert a;refine eE1 fun o=>aA2 fun g U=>?_;exact⟨o,g⟩
theorem ay.mv {h h':Heap}{i src:Addr}{n:Nat}{items:Array Value}(x:ay h i src n items)(h1:∀ o,h.get? i=some o→h'.get? i=some o)(h2:∀ o,h.get? src=some o→h'.get? src=some o):ay h' i src n items:=by
 cases x with
 | list a b=>exact .list (a.at h1) (b.at h2)
 | tup a b =>
  revert a;refine eE1 fun o=>aA2 fun g r=>?_
  revert b;refine eE1 fun o2=>aA2 fun g2 r2=>?_
  exact .tup ⟨o,h1 _ g,r⟩ ⟨o2,h2 _ g2,r2⟩
section
variable {prog:Program}{w:World}{A:Around}{E:Value→Shared→Prop}{s:Shared}
theorem hZ {items}(hit:s.heap.IsTupleIter it t i)
  (ht:s.heap.IsTuple t items)(hx:items[i]? = some x)
  (hQ:∀ h',h'.IsTupleIter it t (i+1)→Heap.SameBut it s.heap h'→Q x { s with heap:=h' }) :
  wpAny (model prog w) A (Builtin.SmallTypes.nextOf (.ref it)) Q E s:=by
 refine bC fun G=>?_;refine eE1 (fun o=>aA3 fun ho hc hd=>?_) (id hit)
 revert ht;refine eE1 fun ol=>aA3 fun hol U=>eE1 fun nl hdl=>?_
 apply G;unfold Builtin.SmallTypes.nextOf
 refine wpAny_bind (wpAny_callSpecial?_slot (name:=Str.ofString "__next__") hit.typeIs F.slot_tuple_iterator_next
  (wpAny_call_entry F.slot_tuple_iterator_next hit.typeIs F.entry_tuple_iterator_next ?_ (F.args_tuple_iterator_next_1 _)))
 show wpAny _ _ (field (.ref it) 0 >>= _) _ _ s
 refine wpAny_bind (wpAny_field ho hd (x:=.ref t) rfl ?_)
 show wpAny _ _ (if(Value.ref t == Value.none)=true then _ else _) _ _ s
 rw[if_neg (show ¬ ((Value.ref t == Value.none)=true) from Bool.false_ne_true)]
 show wpAny _ _ (field (.ref it) 1 >>= _) _ _ s
 refine wpAny_bind (wpAny_field ho hd (x:=.int i 0) rfl ?_)
 show wpAny _ _ (seqItems? (.ref t) >>= _) _ _ s
 refine wpAny_bind (wpAny_seqItems hol hdl ?_)
 simp only[Int.toNat_natCast,hx]
 refine wpAny_bind (wpAny_setField ho hd (by simp) (wpAny_pure ⟨x,rfl,wpAny_pure (hQ _ ?_ (Heap.SameBut.update ..))⟩))
 exact⟨_,Heap.get?_update_self _ ho (Obj.isFreed_of_fields (Obj.data_mapFields hd _)),(Obj.cls_mapFields ..).trans hc,by
  rw[Obj.data_mapFields hd];simp[rawInt]⟩
theorem iZ {items}(hh:A.handled=none)
  (hit:s.heap.IsTupleIter it t i)(ht:s.heap.IsTuple t items)(hx:items[i]? = none)
  (hE:∀ h' e,Heap.ExtBut it s.heap h'→(∃ o,h'.get? e=some o∧o.cls = .type "StopIteration")→E (.ref e) { s with heap:=h' }) :
  wpAny (model prog w) A (Builtin.SmallTypes.nextOf (.ref it)) Q E s:=by
 refine bC fun G=>?_;refine eE1 (fun o=>aA3 fun ho hc hd=>?_) (id hit)
 revert ht;refine eE1 fun ol=>aA3 fun hol U=>eE1 fun nl hdl=>?_
 apply G;unfold Builtin.SmallTypes.nextOf
 refine wpAny_bind (wpAny_callSpecial?_slot (name:=Str.ofString "__next__") hit.typeIs F.slot_tuple_iterator_next
  (wpAny_call_entry F.slot_tuple_iterator_next hit.typeIs F.entry_tuple_iterator_next ?_ (F.args_tuple_iterator_next_1 _)))
 show wpAny _ _ (field (.ref it) 0 >>= _) _ _ s
 refine wpAny_bind (wpAny_field ho hd (x:=.ref t) rfl ?_)
 show wpAny _ _ (if(Value.ref t == Value.none)=true then _ else _) _ _ s
 rw[if_neg (show ¬ ((Value.ref t == Value.none)=true) from Bool.false_ne_true)]
 show wpAny _ _ (field (.ref it) 1 >>= _) _ _ s
 refine wpAny_bind (wpAny_field ho hd (x:=.int i 0) rfl ?_)
 show wpAny _ _ (seqItems? (.ref t) >>= _) _ _ s
 refine wpAny_bind (wpAny_seqItems hol hdl ?_)
 simp only[Int.toNat_natCast,hx]
 refine wpAny_bind (wpAny_rule (wpAny_bind (wpAny_setField ho hd (by simp) ?_)))
 show wpAny _ _ (newExc (.type "StopIteration") [] >>= _) _ _ _
 refine wpAny_bind ?_
 simp only[newExc,newTuple]
 refine wpAny_bind (wpAny_newObj_type ?_ (by size_fits))
 refine wpAny_bind (m:=firstArgMember _ _) (wpAny_of_eq (a:=Value.none) (by first | rfl | (simp only[firstArgMember];rfl)) ?_)
 refine wpAny_newObj_type ?_ (by size_fits)
 simp only[raiseNew]
 refine wpAny_bind (wpAny_handled ?_)
 first | rw[show A.in1.handled=none from hh]| rw[hh]
 refine wpAny_bind (wpAny_pure (wpAny_throw ?_))
 exact hE _ _ (((Heap.SameBut.update ..).extBut.push _).push _) ⟨_,Heap.get?_push_size _ rfl,rfl⟩
theorem dI {it src:Addr}{i:Nat}{items:Array Value}{x:Value}{Q:Value→Shared→Prop}(hit:ay s.heap it src i items)(hne:src≠it)(hx:items[i]? = some x)
  (hQ:∀ h',ay h' it src (i+1) items→Heap.SameBut it s.heap h'→Q x { s with heap:=h' }):wpAny (model prog w) A (Builtin.SmallTypes.nextOf (.ref it)) Q E s:=by
 cases hit with
 | list a b=>exact wpAny_nextOf_list_item a b hx fun h' a' sb=>hQ h' (.list a' (b.extBut sb.extBut hne)) sb
 | tup a b=>exact hZ a b hx fun h' a' sb=>hQ h' (.tup a' (by revert b;refine eE1 fun o=>aA2 fun g r=>?_;exact⟨o,sb.extBut _ _ hne g,r⟩)) sb
theorem dB {it src:Addr}{i:Nat}{items:Array Value}{Q:Value→Shared→Prop}(hh:A.handled=none)(hit:ay s.heap it src i items)(hx:items[i]? = none)
  (hE:∀ h' e,Heap.ExtBut it s.heap h'→(∃ o,h'.get? e=some o∧o.cls = .type "StopIteration")→E (.ref e) { s with heap:=h' }):wpAny (model prog w) A (Builtin.SmallTypes.nextOf (.ref it)) Q E s:=by
 cases hit with
 | list a b=>exact wpAny_nextOf_list_end hh a b hx hE
 | tup a b=>exact iZ hh a b hx hE
theorem pW {it src:Addr}{i:Nat}{items:Array Value}{x:Value}{Q:Option Value→Shared→Prop}(hit:ay s.heap it src i items)(hne:src≠it)(hx:items[i]? = some x)
  (hQ:∀ h',ay h' it src (i+1) items→Heap.SameBut it s.heap h'→Q (some x) { s with heap:=h' }):wpAny (model prog w) A (pyNext (.ref it)) Q E s:=by
 cases hit with
 | list a b=>exact wpAny_pyNext_list_item a b hx fun h' a' sb=>hQ h' (.list a' (b.extBut sb.extBut hne)) sb
 | tup a b=>exact wpAny_pyNext_tuple_item a b hx fun h' a' sb=>hQ h' (.tup a' (by revert b;refine eE1 fun o=>aA2 fun g r=>?_;exact⟨o,sb.extBut _ _ hne g,r⟩)) sb
theorem rI {it src:Addr}{i:Nat}{items:Array Value}{Q:Option Value→Shared→Prop}(hh:A.handled=none)(hit:ay s.heap it src i items)(hx:items[i]? = none)
  (hQ:∀ h',Heap.ExtBut it s.heap h'→Q none { s with heap:=h' }):wpAny (model prog w) A (pyNext (.ref it)) Q E s:=by
 cases hit with
 | list a b=>exact wpAny_pyNext_list_end hh a b hx hQ
 | tup a b=>exact wpAny_pyNext_tuple_end hh a b hx hQ
end
theorem draws (prog:Program)(w:World)(A:Around)(hh:A.handled=none)(it src:Addr)(hne:src≠it)(items:Array Value):Draws prog w A it [it,src] items.size (fun i v=>items[i]? = some v) (fun i h=>ay h it src i items) where
 live:=fun U U st=>st.at
 frame:=fun U U U st hk=>st.mv (fun o e=>hk it (by simp) o e) fun o e=>hk src (by simp) o e
 item:=fun i s Q E hi st hQ=>dI st hne (x:=items[i]) (by simp[hi]) fun h' hit' hs'=>hQ _ h' s.toks (by simp[hi]) hit' hs'
 done:=fun s Q E st hE=>dB hh st (by simp) hE
section
variable {prog:Program}{w:World}{A:Around}{E:Value→Shared→Prop}{s:Shared}
theorem vC {z TI TO i1 i2 l1 l2:Addr}{k1 k2:Nat}{xs ys:Array Value}{x y a b:Value}{Q:Value→Shared→Prop}(D:ZipApart z TI TO i1 i2 l1 l2)
  (hz:IsZip s.heap z TI TO .none)(hTI:IsPair s.heap TI (.ref i1) (.ref i2))(hTO:IsPair s.heap TO a b)
  (h1:ay s.heap i1 l1 k1 xs)(h2:ay s.heap i2 l2 k2 ys)(hx:xs[k1]? = some x)(hy:ys[k2]? = some y)
  (hQ:∀ h',IsZip h' z TI TO (rawInt s.heap.objs.size)→IsPair h' TO x y→ay h' i1 l1 (k1+1) xs→ay h' i2 l2 (k2+1) ys→IsPair h' s.heap.objs.size x y→h'.objs.size=s.heap.objs.size+1 →
   (∀ c o,c≠z→c≠TO→c≠i1→c≠i2→s.heap.get? c=some o→h'.get? c=some o)→Q (.ref s.heap.objs.size) { s with heap:=h' }) :
  wpAny (model prog w) A (Builtin.«zip.__next__» ⟨[.ref z],[]⟩) (fun fin s'=>∃ v,fin = .done (.ret v)∧Q v s') E s:=by
 show wpAny _ _ (field (.ref z) 2 >>= _) _ _ _
 refine wpAny_bind (wpAny_field hz rfl (x:=.bool false) rfl ?_)
 show wpAny _ _ (field (.ref z) 3 >>= _) _ _ _
 refine wpAny_bind (wpAny_field hz rfl (x:=.ref TI) rfl ?_)
 refine wpAny_bind (wpAny_seqItems hTI rfl ?_)
 show wpAny _ _ (Builtin.SmallTypes.ownedTupleIsFree (.ref z) >>= _) _ _ _
 refine wpAny_bind ?_
 unfold Builtin.SmallTypes.ownedTupleIsFree
 refine wpAny_bind (wpAny_field hz rfl (x:=.none) rfl (wpAny_pure ?_))
 simp only[if_true]
 refine wpAny_bind (wpAny_rule ?_)
 refine wpAny_bind (wpAny_field hz rfl (x:=.ref TO) rfl ?_)
 refine wpAny_bind (wpAny_setField_rec hz (by simp) fun h₁ hz₁ hs₁=>?_)
 replace hz₁ : IsZip h₁ z TI TO .ellipsis:=hz₁
 refine wpAny_bind ?_
 simp only[List.zipIdx_cons,List.zipIdx_nil,List.forIn_cons,List.forIn_nil]
 refine wpAny_bind (wpAny_bind (wpAny_onRaise ?_))
 show wpAny _ _ (Builtin.SmallTypes.nextOf (.ref i1) >>= _) _ _ _
 refine wpAny_bind (dI (h1.extBut hs₁.extBut D.i1z D.l1z) D.l1i1 hx fun h₂ h1₂ hs₂=>wpAny_pure ?_)
 have hTO₂ : IsPair h₂ TO a b:=hs₂.extBut _ _ D.TOi1 (hs₁.extBut _ _ D.TOz hTO)
 refine wpAny_bind (wpAny_seqItems hTO₂ rfl ?_)
 refine wpAny_bind (wpAny_updateSeq_pair hTO₂ fun h₃ hTO₃ hs₃=>?_)
 replace hTO₃ : IsPair h₃ TO x b:=hTO₃
 refine wpAny_bind (wpAny_letGo (wpAny_pure ?_))
 refine wpAny_bind (wpAny_bind (wpAny_onRaise ?_))
 show wpAny _ _ (Builtin.SmallTypes.nextOf (.ref i2) >>= _) _ _ _
 refine wpAny_bind (dI (((h2.extBut hs₁.extBut D.i2z D.l2z).extBut hs₂.extBut D.i12.symm D.l2i1).extBut hs₃.extBut D.TOi2.symm D.l2TO) D.l2i2 hy fun h₄ h2₄ hs₄=>wpAny_pure ?_)
 have hTO₄ : IsPair h₄ TO x b:=hs₄.extBut _ _ D.TOi2 hTO₃
 refine wpAny_bind (wpAny_seqItems hTO₄ rfl ?_)
 refine wpAny_bind (wpAny_updateSeq_pair hTO₄ fun h₅ hTO₅ hs₅=>?_)
 replace hTO₅ : IsPair h₅ TO x y:=hTO₅
 refine wpAny_bind (wpAny_letGo (wpAny_pure (wpAny_pure ?_)))
 refine wpAny_bind (wpAny_seqItems hTO₅ rfl ?_)
 refine wpAny_bind (wpAny_newTuple ?_)
 have hsz:h₅.objs.size=s.heap.objs.size:=by rw[hs₅.1,hs₄.1,hs₃.1,hs₂.1,hs₁.1]
 have hz₅ : IsZip h₅ z TI TO .ellipsis:=hs₅.extBut _ _ D.TOz.symm (hs₄.extBut _ _ D.i2z.symm (hs₃.extBut _ _ D.TOz.symm (hs₂.extBut _ _ D.i1z.symm hz₁)))
 have hk₅ : ∀ c o,c≠z→c≠TO→c≠i1→c≠i2→s.heap.get? c=some o→h₅.get? c=some o:=fun c o c1 c2 c3 c4 e =>
  hs₅.extBut _ _ c2 (hs₄.extBut _ _ c4 (hs₃.extBut _ _ c2 (hs₂.extBut _ _ c3 (hs₁.extBut _ _ c1 e))))
 have h1₅ : ay h₅ i1 l1 (k1+1) xs:=((h1₂.extBut hs₃.extBut D.TOi1.symm D.l1TO).extBut hs₄.extBut D.i12 D.l1i2).extBut hs₅.extBut D.TOi1.symm D.l1TO
 have h2₅ : ay h₅ i2 l2 (k2+1) ys:=h2₄.extBut hs₅.extBut D.TOi2.symm D.l2TO
 have hzlt:z < h₅.objs.size:=Heap.lt_size hz₅
 have hTOlt:TO < h₅.objs.size:=Heap.lt_size hTO₅
 show wpAny _ _ (Builtin.SmallTypes.ownedTupleHandOut (.ref z) (.ref h₅.objs.size) >>= _) _ _ _
 refine wpAny_bind ?_
 unfold Builtin.SmallTypes.ownedTupleHandOut
 have hz₆ : IsZip (h₅.push { cls:=.type "tuple",data:=.seq #[x,y] }) z TI TO .ellipsis:=Heap.get?_push_of_some _ hz₅
 refine wpAny_bind (wpAny_setField_rec hz₆ (by simp) fun h₇ hz₇ hs₇=>?_)
 replace hz₇ : IsZip h₇ z TI TO (rawInt h₅.objs.size):=hz₇
 refine wpAny_setField_rec hz₇ (by simp) fun h₈ hz₈ hs₈=>?_
 replace hz₈ : IsZip h₈ z TI TO (rawInt h₅.objs.size):=hz₈
 have up:∀ c o,c≠z→h₅.get? c=some o→h₈.get? c=some o:=fun c o c1 e=>hs₈.extBut _ _ c1 (hs₇.extBut _ _ c1 (Heap.get?_push_of_some _ e))
 have hT₈ : IsPair h₈ h₅.objs.size x y:=hs₈.extBut _ _ (Nat.ne_of_gt hzlt) (hs₇.extBut _ _ (Nat.ne_of_gt hzlt) (Heap.get?_push_size _ rfl))
 have hz8:h₈.objs.size=h₅.objs.size+1:=by rw[hs₈.1,hs₇.1,Heap.size_push]
 rw[hsz] at hz₈ hT₈ hz8
 refine wpAny_pure ⟨_,rfl,?_⟩
 show Q (.ref h₅.objs.size) _
 rw[hsz]
 exact hQ h₈ hz₈ (up _ _ D.TOz hTO₅) (h1₅.mv (fun o e=>up _ o D.i1z e) fun o e=>up _ o D.l1z e) (h2₅.mv (fun o e=>up _ o D.i2z e) fun o e=>up _ o D.l2z e) hT₈ hz8 fun c o c1 c2 c3 c4 e=>up c o c1 (hk₅ c o c1 c2 c3 c4 e)
theorem vT {z TI TO i1 i2 l1 l2:Addr}{k1 k2:Nat}{xs ys:Array Value}{a b:Value}{Q:Fin→Shared→Prop}(hh:A.handled=none)(D:ZipApart z TI TO i1 i2 l1 l2)
  (hz:IsZip s.heap z TI TO .none)(hTI:IsPair s.heap TI (.ref i1) (.ref i2))(hTO:IsPair s.heap TO a b)
  (h1:ay s.heap i1 l1 k1 xs)(h2:ay s.heap i2 l2 k2 ys)(hend:xs[k1]? = none∨ys[k2]? = none)
  (hE:∀ h' e,(∀ c o,c≠z→c≠TO→c≠i1→c≠i2→s.heap.get? c=some o→h'.get? c=some o)→(∃ u v,IsPair h' TO u v)→(∃ o,h'.get? e=some o∧o.cls = .type "StopIteration")→E (.ref e) { s with heap:=h' }) :
  wpAny (model prog w) A (Builtin.«zip.__next__» ⟨[.ref z],[]⟩) Q E s:=by
 show wpAny _ _ (field (.ref z) 2 >>= _) _ _ _
 refine wpAny_bind (wpAny_field hz rfl (x:=.bool false) rfl ?_)
 show wpAny _ _ (field (.ref z) 3 >>= _) _ _ _
 refine wpAny_bind (wpAny_field hz rfl (x:=.ref TI) rfl ?_)
 refine wpAny_bind (wpAny_seqItems hTI rfl ?_)
 show wpAny _ _ (Builtin.SmallTypes.ownedTupleIsFree (.ref z) >>= _) _ _ _
 refine wpAny_bind ?_
 unfold Builtin.SmallTypes.ownedTupleIsFree
 refine wpAny_bind (wpAny_field hz rfl (x:=.none) rfl (wpAny_pure ?_))
 simp only[if_true]
 refine wpAny_bind (wpAny_rule ?_)
 refine wpAny_bind (wpAny_field hz rfl (x:=.ref TO) rfl ?_)
 refine wpAny_bind (wpAny_setField_rec hz (by simp) fun h₁ hz₁ hs₁=>?_)
 replace hz₁ : IsZip h₁ z TI TO .ellipsis:=hz₁
 refine wpAny_bind ?_
 simp only[List.zipIdx_cons,List.zipIdx_nil,List.forIn_cons,List.forIn_nil]
 refine wpAny_bind (wpAny_bind (wpAny_onRaise ?_))
 show wpAny _ _ (Builtin.SmallTypes.nextOf (.ref i1) >>= _) _ _ _
 cases hx:xs[k1]? with
 | none =>
  refine wpAny_bind (dB hh (h1.extBut hs₁.extBut D.i1z D.l1z) hx fun h₂ e hs₂ he=>?_)
  revert he;refine eE1 fun oe=>aA2 fun hoe hce=>?_
  have hz₂ : IsZip h₂ z TI TO .ellipsis:=hs₂ _ _ D.i1z.symm hz₁
  have hez:e≠z:=fun x=>by subst x;rw[hz₂] at hoe;replace hoe:=ab hoe;subst hoe;simp at hce
  refine wpAny_setField_rec hz₂ (by simp) fun h₃ U hs₃=>hE h₃ e (fun c o c1 U c3 U x=>hs₃.extBut _ _ c1 (hs₂ _ _ c3 (hs₁.extBut _ _ c1 x))) ⟨a,b,hs₃.extBut _ _ D.TOz (hs₂ _ _ D.TOi1 (hs₁.extBut _ _ D.TOz hTO))⟩ ⟨oe,hs₃.extBut _ _ hez hoe,hce⟩
 | some x =>
  have hy:ys[k2]? = none:=by rcases hend with h | h;rw[hx] at h;exact zsn h;exact h
  refine wpAny_bind (dI (h1.extBut hs₁.extBut D.i1z D.l1z) D.l1i1 hx fun h₂ h1₂ hs₂=>wpAny_pure ?_)
  have hTO₂ : IsPair h₂ TO a b:=hs₂.extBut _ _ D.TOi1 (hs₁.extBut _ _ D.TOz hTO)
  refine wpAny_bind (wpAny_seqItems hTO₂ rfl ?_)
  refine wpAny_bind (wpAny_updateSeq_pair hTO₂ fun h₃ hTO₃ hs₃=>?_)
  refine wpAny_bind (wpAny_letGo (wpAny_pure ?_))
  refine wpAny_bind (wpAny_bind (wpAny_onRaise ?_))
  show wpAny _ _ (Builtin.SmallTypes.nextOf (.ref i2) >>= _) _ _ _
  refine wpAny_bind (dB hh (((h2.extBut hs₁.extBut D.i2z D.l2z).extBut hs₂.extBut D.i12.symm D.l2i1).extBut hs₃.extBut D.TOi2.symm D.l2TO) hy fun h₄ e hs₄ he=>?_)
  revert he;refine eE1 fun oe=>aA2 fun hoe hce=>?_
  have hz₄ : IsZip h₄ z TI TO .ellipsis:=hs₄ _ _ D.i2z.symm (hs₃.extBut _ _ D.TOz.symm (hs₂.extBut _ _ D.i1z.symm hz₁))
  have hez:e≠z:=fun x=>by subst x;rw[hz₄] at hoe;replace hoe:=ab hoe;subst hoe;simp at hce
  refine wpAny_setField_rec hz₄ (by simp) fun h₅ U hs₅=>hE h₅ e (fun c o c1 c2 c3 c4 x=>hs₅.extBut _ _ c1 (hs₄ _ _ c4 (hs₃.extBut _ _ c2 (hs₂.extBut _ _ c3 (hs₁.extBut _ _ c1 x))))) ⟨x,b,hs₅.extBut _ _ D.TOz (hs₄ _ _ D.TOi2 hTO₃)⟩ ⟨oe,hs₅.extBut _ _ hez hoe,hce⟩
theorem fk {z TI TO i1 i2 l1 l2:Addr}{k1 k2:Nat}{xs ys:Array Value}{x y a b:Value}{Q:Option Value→Shared→Prop}(D:ZipApart z TI TO i1 i2 l1 l2)
  (hz:IsZip s.heap z TI TO .none)(hTI:IsPair s.heap TI (.ref i1) (.ref i2))(hTO:IsPair s.heap TO a b)
  (h1:ay s.heap i1 l1 k1 xs)(h2:ay s.heap i2 l2 k2 ys)(hx:xs[k1]? = some x)(hy:ys[k2]? = some y)
  (hQ:∀ h',IsZip h' z TI TO (rawInt s.heap.objs.size)→IsPair h' TO x y→ay h' i1 l1 (k1+1) xs→ay h' i2 l2 (k2+1) ys→IsPair h' s.heap.objs.size x y→h'.objs.size=s.heap.objs.size+1 →
   (∀ c o,c≠z→c≠TO→c≠i1→c≠i2→s.heap.get? c=some o→h'.get? c=some o)→Q (some (.ref s.heap.objs.size)) { s with heap:=h' }) :
  wpAny (model prog w) A (pyNext (.ref z)) Q E s:=by
 have hT:s.TypeIs (.ref z) "zip":=⟨_,hz,rfl⟩
 unfold pyNext
 exact wpAny_bind (wpAny_attempt (wpAny_callSpecial?_slot (name:=Str.ofString "__next__") hT F.slot_zip_next
  (wpAny_call_entry F.slot_zip_next hT F.entry_zip_next
   (vC D hz hTI hTO h1 h2 hx hy fun h' a1 a2 a3 a4 a5 a6 a7=>wpAny_pure (hQ h' a1 a2 a3 a4 a5 a6 a7)) (F.args_zip_next_1 _))))
theorem eU {z TI TO i1 i2 l1 l2:Addr}{k1 k2:Nat}{xs ys:Array Value}{a b:Value}{Q:Option Value→Shared→Prop}(hh:A.handled=none)(D:ZipApart z TI TO i1 i2 l1 l2)
  (hz:IsZip s.heap z TI TO .none)(hTI:IsPair s.heap TI (.ref i1) (.ref i2))(hTO:IsPair s.heap TO a b)
  (h1:ay s.heap i1 l1 k1 xs)(h2:ay s.heap i2 l2 k2 ys)(hend:xs[k1]? = none∨ys[k2]? = none)
  (hQ:∀ h',(∀ c o,c≠z→c≠TO→c≠i1→c≠i2→s.heap.get? c=some o→h'.get? c=some o)→(∃ u v,IsPair h' TO u v)→Q none { s with heap:=h' }):wpAny (model prog w) A (pyNext (.ref z)) Q E s:=by
 have hT:s.TypeIs (.ref z) "zip":=⟨_,hz,rfl⟩
 unfold pyNext
 refine wpAny_bind (wpAny_attempt (wpAny_callSpecial?_slot (name:=Str.ofString "__next__") hT F.slot_zip_next
  (wpAny_call_entry F.slot_zip_next hT F.entry_zip_next (vT hh D hz hTI hTO h1 h2 hend fun h' e hk hp he=>?_) (F.args_zip_next_1 _))))
 revert he;refine eE1 fun o=>aA2 fun ho hc=>?_
 refine wpAny_bind (wpAny_isInstance (T:="StopIteration") (b:=true) ⟨o,ho,hc⟩ isSubtype_stop ?_)
 exact wpAny_pure (hQ _ hk hp)
end
section
open AutoSeq1 (wpAny_loadPart')
def dG (b:Bool)(h:Heap)(a:Addr)(items:Array Value):Prop:=if b then h.IsList a items else h.IsTuple a items
noncomputable def gm (b:Bool):String:=if b then "list_iterator" else "tuple_iterator"
noncomputable def dF (b:Bool)(a:Addr):Obj:={ cls:=.type (gm b),data:=.fields #[.ref a,.int 0 0] }
theorem dG.push {b:Bool}{h:Heap}{a:Addr}{items:Array Value}(x:dG b h a items)(o:Obj):dG b (h.push o) a items:=by
 cases b
 ·revert x;refine eE1 fun p=>aA2 fun g r=>?_;exact⟨p,Heap.get?_push_of_some _ g,r⟩
 ·revert x;refine eE1 fun p=>aA2 fun g r=>?_;exact⟨p,Heap.get?_push_of_some _ g,r⟩
theorem dG.keeps {b:Bool}{h h':Heap}{a:Addr}{items:Array Value}(x:dG b h a items)(k:∀ b o,h.get? b=some o→h'.get? b=some o):dG b h' a items:=by
 cases b
 ·revert x;refine eE1 fun p=>aA2 fun g r=>?_;exact⟨p,k _ _ g,r⟩
 ·revert x;refine eE1 fun p=>aA2 fun g r=>?_;exact⟨p,k _ _ g,r⟩
theorem dG.iter {b:Bool}{h:Heap}{a i:Addr}{items:Array Value}(x:dG b h a items)(g:h.get? i=some (dF b a)):ay h i a 0 items:=by
 cases b
 ·exact .tup ⟨_,g,rfl,rfl⟩ x
 ·exact .list ⟨_,g,rfl,rfl⟩ x
section
variable {prog:Program}{w:World}{A:Around}{E:Value→Shared→Prop}{s:Shared}
theorem dC {b:Bool}{a:Addr}{items:Array Value}{Q:Value→Shared→Prop}(x:dG b s.heap a items)(h:Q (.ref s.heap.objs.size) { s with heap:=s.heap.push (dF b a) }):wpAny (model prog w) A (pyIter (.ref a)) Q E s:=by
 cases b
 ·exact wpAny_pyIter_tuple x h
 ·exact wpAny_pyIter_list x h
end
noncomputable abbrev zH1 (h:Heap)(a b:Bool)(l1 l2:Addr):Heap:=h.push (dF a l1)
noncomputable abbrev zH2 (h:Heap)(a b:Bool)(l1 l2:Addr):Heap:=(zH1 h a b l1 l2).push (dF b l2)
noncomputable abbrev zH3 (h:Heap)(a b:Bool)(l1 l2:Addr):Heap:=(zH2 h a b l1 l2).push { cls:=.type "tuple",data:=.seq #[.ref h.objs.size,.ref (zH1 h a b l1 l2).objs.size] }
noncomputable abbrev zH4 (h:Heap)(a b:Bool)(l1 l2:Addr):Heap:=(zH3 h a b l1 l2).push { cls:=.type "tuple",data:=.seq #[.none,.none] }
noncomputable abbrev zH5 (h:Heap)(a b:Bool)(l1 l2:Addr):Heap:=(zH4 h a b l1 l2).push { cls:=.type "zip",data:=.fields #[.none,.bool false,.bool false,.ref (zH2 h a b l1 l2).objs.size,.ref (zH3 h a b l1 l2).objs.size] }
theorem wm (a b:Bool)(l1 l2:Addr)(xs ys:Array Value) :
  Meets (Builtin.«zip.__new__» ⟨[.type "zip",.ref l1,.ref l2],[]⟩) (fun U R s=>dG a s.heap l1 xs∧dG b s.heap l2 ys ∧
   R (.ok (.ret (.ref (zH4 s.heap a b l1 l2).objs.size))) { s with heap:=zH5 s.heap a b l1 l2 }):=
 .of_wp fun prog w A R s h=>by
  obtain⟨hp,g,d,tk,os⟩:=s;revert h;refine aA3 fun hl1 hl2 h=>?_
  have hsub:=sub_zip
  have hL1:dG a (Shared.heap ⟨hp,g,d,tk,os⟩) l1 xs:=hl1
  have hL2:dG b (Shared.heap ⟨hp.push (dF a l1),g,d,tk,os⟩) l2 ys:=hl2.push _
  wp_walk using dC hL1,dC hL2
  exact⟨_,rfl,h⟩
theorem vm (h:∀ b,Q b s):wpAny M A (Builtin.SmallTypes.calledThroughType cls) Q E s:=wpAny_bind (wpAny_stack_any fun U=>wpAny_pure (h _))
theorem vt (l:Addr)(items:Array Value)(n:Nat)(dct:Option Addr)(sl:Array (Option Value)) :
  Meets (Builtin.«enumerate.__new__» ⟨[.type "enumerate",.ref l],[]⟩) (fun U R s=>s.heap.get? l=some { cls:=.type "tuple",dict:=dct,data:=.seq items n,slots:=sl } ∧
   R (.ok (.ret (.ref (s.heap.push (dF false l)).objs.size)))
    { s with heap:=(s.heap.push (dF false l)).push { cls:=.type "enumerate",data:=.fields #[.none,.bool false,.ref s.heap.objs.size,rawInt 0,.none,.none] } }):=
 .of_wp fun prog w A R s h=>by
  obtain⟨hp,g,d,tk,os⟩:=s;obtain⟨hl,h⟩:=h
  have hsub:=sub_enumerate
  have hL:dG false (Shared.heap ⟨hp,g,d,tk,os⟩) l items:=⟨_,hl,rfl,n,rfl⟩
  wp_walk using wpAny_loadPart' hl,vm
  intro b
  cases b
  ·wp_walk using wpAny_loadPart' hl,dC hL
   exact⟨_,rfl,h⟩
  ·wp_walk using wpAny_loadPart' hl,dC hL
   exact⟨_,rfl,h⟩
end
section
variable {prog:Program}{w:World}{A:Around}{E:Value→Shared→Prop}{s:Shared}
theorem lW {b:Bool}{l:Addr}{items:Array Value}{Q:Value→Shared→Prop}(x:dG b s.heap l items)
  (h:∀ h',IsEnum h' (s.heap.objs.size+1) s.heap.objs.size 0 .none→ay h' s.heap.objs.size l 0 items→h'.objs.size=s.heap.objs.size+2 →
   (∀ b o,s.heap.get? b=some o→h'.get? b=some o)→Q (.ref (s.heap.objs.size+1)) { s with heap:=h' }) :
  wpAny (model prog w) A (call (.type "enumerate") [.ref l]) Q E s:=by
 cases b with
 | true=>exact call_enumerate_list x fun h' a b c d=>h h' a (.list b (Heap.IsList.at x fun o e=>d _ _ e)) c d
 | false =>
  refine bC fun G=>?_;refine eE1 (fun z1q0=>aA3 fun hl hc=>eE1 fun n hd=>?_) (id x);obtain⟨c,dct,dt,sl⟩:=z1q0
  replace hc:c = .type "tuple":=hc
  replace hd:dt = .seq items n:=hd
  subst hc hd
  apply G;refine callType_new F.called_enumerate (by decide) (F.typeCall_enumerate_1 _) (F.newCall_enumerate_1 _) (fun obj=>F.args_object_init_2 obj _) F.entry_enumerate_new
   (vt l items n dct sl) ⟨hl,?_⟩
  have hz:(s.heap.push (dF false l)).objs.size=s.heap.objs.size+1:=Heap.size_push ..
  show _∧_
  rw[hz]
  have he:IsEnum ((s.heap.push (dF false l)).push { cls:=.type "enumerate",data:=.fields #[.none,.bool false,.ref s.heap.objs.size,rawInt 0,.none,.none] }) (s.heap.objs.size+1) s.heap.objs.size 0 .none:=by
   have:=Heap.get?_push_size (s.heap.push (dF false l)) (o:={ cls:=.type "enumerate",data:=.fields #[.none,.bool false,.ref s.heap.objs.size,rawInt 0,.none,.none] }) rfl
   rw[hz] at this;exact this
  have K:∀ b o,s.heap.get? b=some o→((s.heap.push (dF false l)).push { cls:=.type "enumerate",data:=.fields #[.none,.bool false,.ref s.heap.objs.size,rawInt 0,.none,.none] }).get? b=some o:=fun b o x=>Heap.get?_push_of_some _ (Heap.get?_push_of_some _ x)
  exact⟨⟨_,he,rfl⟩,h _ he ((x.keeps K).iter (Heap.get?_push_of_some _ (Heap.get?_push_size _ rfl))) (by rw[Heap.size_push,hz]) K⟩
theorem gS {a b:Bool}{l1 l2:Addr}{xs ys:Array Value}{Q:Value→Shared→Prop}(hl1:dG a s.heap l1 xs)(hl2:dG b s.heap l2 ys)
  (h:∀ h',IsZip h' (s.heap.objs.size+4) (s.heap.objs.size+2) (s.heap.objs.size+3) .none→IsPair h' (s.heap.objs.size+2) (.ref s.heap.objs.size) (.ref (s.heap.objs.size+1)) →
   IsPair h' (s.heap.objs.size+3) .none .none→ay h' s.heap.objs.size l1 0 xs→ay h' (s.heap.objs.size+1) l2 0 ys→h'.objs.size=s.heap.objs.size+5 →
   (∀ c o,s.heap.get? c=some o→h'.get? c=some o)→Q (.ref (s.heap.objs.size+4)) { s with heap:=h' }) :
  wpAny (model prog w) A (call (.type "zip") [.ref l1,.ref l2]) Q E s:=by
 refine callType_new F.called_zip (by decide) (F.typeCall_zip_2 _ _) (F.newCall_zip_2 _ _) (fun obj=>F.args_object_init_3 obj _ _) F.entry_zip_new
  (wm a b l1 l2 xs ys) ⟨hl1,hl2,?_⟩
 have z1:(zH1 s.heap a b l1 l2).objs.size=s.heap.objs.size+1:=Heap.size_push ..
 have z2:(zH2 s.heap a b l1 l2).objs.size=s.heap.objs.size+2:=by rw[Heap.size_push,z1]
 have z3:(zH3 s.heap a b l1 l2).objs.size=s.heap.objs.size+3:=by rw[Heap.size_push,z2]
 have z4:(zH4 s.heap a b l1 l2).objs.size=s.heap.objs.size+4:=by rw[Heap.size_push,z3]
 have z5:(zH5 s.heap a b l1 l2).objs.size=s.heap.objs.size+5:=by rw[Heap.size_push,z4]
 have g5:(zH5 s.heap a b l1 l2).get? (zH4 s.heap a b l1 l2).objs.size=some _:=Heap.get?_push_size _ rfl
 have g4:(zH5 s.heap a b l1 l2).get? (zH3 s.heap a b l1 l2).objs.size=some _:=Heap.get?_push_of_some _ (Heap.get?_push_size _ rfl)
 have g3:(zH5 s.heap a b l1 l2).get? (zH2 s.heap a b l1 l2).objs.size=some _:=Heap.get?_push_of_some _ (Heap.get?_push_of_some _ (Heap.get?_push_size _ rfl))
 have g2:(zH5 s.heap a b l1 l2).get? (zH1 s.heap a b l1 l2).objs.size=some _:=Heap.get?_push_of_some _ (Heap.get?_push_of_some _ (Heap.get?_push_of_some _ (Heap.get?_push_size _ rfl)))
 have g1:(zH5 s.heap a b l1 l2).get? s.heap.objs.size=some _:=Heap.get?_push_of_some _ (Heap.get?_push_of_some _ (Heap.get?_push_of_some _ (Heap.get?_push_of_some _ (Heap.get?_push_size _ rfl))))
 have K:∀ c o,s.heap.get? c=some o→(zH5 s.heap a b l1 l2).get? c=some o:=fun c o x=>Heap.get?_push_of_some _ (Heap.get?_push_of_some _ (Heap.get?_push_of_some _ (Heap.get?_push_of_some _ (Heap.get?_push_of_some _ x))))
 show _∧_
 rw[z2,z3,z4] at g5
 rw[z1,z2] at g3
 rw[z3] at g4
 rw[z1] at g2
 rw[z4]
 exact⟨⟨_,g5,rfl⟩,h _ g5 g3 g4 ((hl1.keeps K).iter g1) ((hl2.keeps K).iter g2) z5 K⟩
end
section
variable {W:Wd}{fs:List Env}{ι ι':Io}{H H':Hp}{s s':Shared}
end
section
variable {W:Wd}{fs:List Env}{ι:Io}{H:Hp}{s:Shared}
theorem w8 {b0 h h':Heap}{P:Addr→Prop}(K:OldK b0 h)(hP:∀ b,P b→b0.get? b=none)(hs:∀ b o,¬ P b→h.get? b=some o→h'.get? b=some o):OldK b0 h':=by
 have ne:∀ b o,b0.get? b=some o→¬ P b:=fun b o e z=>by rw[hP b z] at e;exact zns e
 refine⟨fun b o e=>?_,fun b o e=>by
  obtain⟨o',ho'⟩:=K.there b o e
  exact⟨o',hs b o' (ne b o e) ho'⟩⟩
 refine bC fun G=>?_;rcases K.old b o e with x | ⟨t,hc,vs,more,hv,x⟩| ⟨rfl,hc,⟨o',es,n,ho',r⟩,z⟩
 ·apply G;exact .inl (hs b _ (ne b o e) x)
 ·apply G;exact .inr (.inl ⟨t,hc,vs,more,hv,hs b _ (ne b o e) x⟩)
 ·apply G;exact .inr (.inr ⟨rfl,hc,⟨o',es,n,hs _ _ (ne _ o e) ho',r⟩,fun key=>by rw[OldK.staticOf_congr ((hs _ _ (ne _ o e) ho').trans ho'.symm) key];exact z key⟩)
theorem St.xm (S:St W fs ι H s){P:Addr→Prop}{h':Heap}(hs:∀ b o,¬ P b→s.heap.get? b=some o→h'.get? b=some o)
  (hP:∀ b,P b→W.base.get? b=none∧b∉frs fs∧b≠W.src)
  (tp:∀ b o,P b→s.heap.get? b=some o→TC o→TD o→Own W ι b)
  (ow:TK W ι s.heap ι h'→∀ i p o,ι i=some p→H.t.get i=some o→P p.1∨P p.2→RO W ι h' p o){tk:Nat}{dr:Drawn}:St W fs ι H ⟨h',s.gens,dr,tk,s.os⟩∧TK W ι s.heap ι h':=by
 have tk':TK W ι s.heap ι h':=fun x y g c d no=>by
  by_cases z:P x
  ·exact absurd (tp x y z g c d) no
  ·exact⟨hs x y z g,no⟩
 have old:=w8 S.old (fun b z=>(hP b z).1) hs
 have lim:h'.NoLimit:=by
  refine eE1 (fun mc=>aA2 fun z2q1 q=>?_) (S.bp);revert z2q1;refine eE3 fun o es ep=>aA2 fun g r=>?_
  obtain⟨o2,g2⟩:=S.old.there _ o g
  refine eE1 (fun mc2=>aA2 fun z4q1 q3=>?_) (S.lim);revert z4q1;refine eE3 fun o3 es3 ep3=>aA2 fun g3 r3=>?_
  exact⟨mc2,⟨o3,es3,ep3,hs _ _ (fun z=>by have:=(hP _ z).1;rw[g] at this;exact zsn this) g3,r3⟩,q3⟩
 have nfr:∀ L∈frs fs,¬ P L:=fun L m z=>(hP L z).2.1 m
 refine⟨⟨S.bo,S.bp,S.mods,fun a o e=>hs a o (fun z=>by have:=(hP a z).1;rw[S.bo a o e] at this;exact zsn this) (S.ground a o e),old,lim,
  bX S.frames fun x m y g=>⟨y,hs x y (nfr x m) g,rfl⟩,fun L m=>(by refine eE3 (fun o es n=>aA2 fun g d=>?_) (S.frd L m);exact⟨o,es,n,hs L o (nfr L m) g,d⟩),fun i ob e=>?_,S.dom,S.apart,S.fresh,S.aF,?_,S.gens,S.os,fun Q m=>(by
  refine eE1 (fun ps=>aA4 fun z6q1 g t c=>?_) (S.tabs Q m);obtain⟨ob',b'⟩:=z6q1
  exact⟨ps,⟨ob',b'⟩,hs _ _ (fun z=>(by have:=(hP _ z).1;rw[this] at b';exact zns b')) g,t,fun pos cv e=>(c pos cv e).mono tk'⟩)⟩,tk'⟩
 ·refine eE1 (fun q=>aA2 fun a r'=>?_) (S.live i ob e)
  refine⟨q,a,?_⟩
  by_cases z:P q.1∨P q.2
  ·exact ow tk' i q ob a e z
  ·exact r'.mono (Sub.refl _) tk' (fun x g=>hs _ _ (fun y=>z (.inl y)) g) (fun x g=>hs _ _ (fun y=>z (.inr y)) g)
 ·refine bC fun G=>?_;obtain⟨⟨o1,g,r'⟩⟩:=S.src
  apply G;exact⟨⟨o1,hs _ _ (fun z=>(hP _ z).2.2 rfl) g,r'⟩⟩
theorem Ext.many {P:Addr→Prop}{h h':Heap}(hs:∀ b o,¬ P b→h.get? b=some o→h'.get? b=some o)(ex:∀ b,P b→∃ o',h'.get? b=some o')(tk:TK W ι h ι h'):Ext W P ι h ι h' :=
 ⟨Sub.refl _,tk,fun x y g U U nx=>⟨y.slots,hs x y nx g,fun U=>rfl⟩,fun x y g=>(by
  by_cases z:P x
  ·exact ex x z
  ·exact⟨y,hs x y z g⟩),fun x h=>.inl h⟩
theorem Ext.fin {X P:Addr→Prop}{ι0:Io}{h0 h h':Heap}(e:Ext W X ι0 h0 ι h)(hs:∀ b o,¬ P b→h.get? b=some o→h'.get? b=some o)(nw:∀ b,P b→h0.get? b=Option.none)(tk:TK W ι h ι h'):Ext W X ι0 h0 ι h':=by
 have np:∀ {b o},h0.get? b=some o→¬ P b:=fun {b o} g z=>by rw[nw b z] at g;exact zns g
 refine⟨e.sub,e.tk.trans tk,fun b o g c no nx=>?_,fun b o g=>?_,e.new⟩
 ·refine eE1 (fun sl=>aA2 fun g1 q=>?_) (e.keep b o g c no nx)
  exact⟨sl,hs _ _ (np g) g1,q⟩
 ·obtain⟨o1,g1⟩:=e.dom b o g
  exact⟨o1,hs _ _ (np g) g1⟩
end
structure bA (W:Wd)(fs:List Env)(h0:Heap)(ι:Io)(h:Heap)(b:Addr):Prop where
 new:h0.get? b=none
 base:W.base.get? b=none
 own:¬ Own W ι b
 frame:b∉frs fs
 there:∃ o,h.get? b=some o
section
variable {W:Wd}{fs:List Env}{ι ι':Io}{H:Hp}{s:Shared}{h h0 h':Heap}{X:Addr→Prop}
theorem bA.ext (p:bA W fs h0 ι h b)(e:Ext W X ι h ι' h'):bA W fs h0 ι' h' b:=by
 obtain⟨o,g⟩:=p.there
 refine⟨p.new,p.base,fun z=>?_,p.frame,e.dom b o g⟩
 rcases e.new b z with z | z
 ·exact p.own z
 ·rw[g] at z;exact zsn z
theorem bA.src (p:bA W fs h0 ι h b):b≠W.src:=fun z=>p.own (.inl z)
theorem bA.kept (p:bA W fs h0 ι h b)(e:Ext W X ι h ι' h')(nx:¬ X b)(g:h.get? b=some o)(nd:∀ es n,o.data≠.dict es n):h'.get? b=some o:=by
 refine eE1 (fun sl=>aA2 fun g' q=>?_) (e.keep b o g (.inr p.base) p.own nx)
 rw[q nd] at g'
 exact g'
end
inductive fT (W:Wd)(ι:Io)(h:Heap):Sq→Bool→Addr→Prop
 | tup {a vs n l}:IsT h a vs n→l.length≤1000→RVs W ι h vs.toList l→¬ Own W ι a→fT W ι h (.tup l) false a
 | lst {i p}:ι i=some p→fT W ι h (.lst i) true p.1
theorem gX (c:o.cls = .type (gm b)):¬ TC o:=TC.ne c (by cases b<;>decide) (by cases b<;>decide)
def bh (b:Bool)(h:Heap)(i a:Addr)(n:Nat):Prop:=∃ o,h.get? i=some o∧o.cls = .type (gm b)∧o.data = .fields #[.ref a,.int n 0]
noncomputable def cP (b:Bool):String:=if b then "list" else "tuple"
theorem ay.gu {b:Bool}{h:Heap}{i a:Addr}{n:Nat}{items:Array Value}(x:ay h i a n items){o:Obj}(g:h.get? a=some o)(c:o.cls = .type (cP b)):bh b h i a n:=by
 cases x with
 | list y z =>
  revert z;refine eE1 fun o2=>aA3 fun g2 c2 U=>?_
  rw[g] at g2;replace g2:=ab g2;subst g2
  rw[c2] at c
  cases b
  ·exact absurd c (by decide)
  ·exact y
 | tup y z =>
  revert z;refine eE1 fun o2=>aA3 fun g2 c2 U=>?_
  rw[g] at g2;replace g2:=ab g2;subst g2
  rw[c2] at c
  cases b
  ·exact y
  ·exact absurd c (by decide)
theorem qg:∀ {l:List Vl}{n:Nat},eAt l n ks ke=true→(∃ x,l[n]? = some x∧ks x=true)∨(l[n]? = none∧ke=true)
 | [],n,t=>.inr ⟨rfl,t⟩
 | a :: r,0,t=>.inl ⟨a,rfl,t⟩
 | a :: r,n+1,t=>by
  have:=qg (l:=r) (n:=n) t
  simpa using this
section
variable {W:Wd}{fs:List Env}{ι ι':Io}{H H':Hp}{s s':Shared}{h h' h0:Heap}{X:Addr→Prop}
theorem fT.ext {q:Sq}{b:Bool}{a:Addr}(x:fT W ι h q b a)(e:Ext W X ι h ι' h'):fT W ι' h' q b a:=by
 cases x with
 | tup g ln r no=>exact .tup (e.tk _ _ g (.inl rfl) (.inl ⟨_,_,rfl⟩) no).1 ln (r.ext e) (e.tk _ _ g (.inl rfl) (.inl ⟨_,_,rfl⟩) no).2
 | lst ei=>exact .lst (e.sub _ _ ei)
set_option tactic.hygienic true in
theorem jG (S:St W fs ι H s)(rv:RV W ι s.heap v y)(t:ll H y k=true):∃ q b a items,v = .ref a∧dG b s.heap a items∧fT W ι s.heap q b a∧k q=true:=by
 cases y<;>first | exact nf t | exact ns t | skip
 ·rename_i l
  refine eE3 (fun U U U=>aA5 fun z3q3 g ln rvs no=>?_) (rv.inv);obtain rfl:=z3q3;next=>exact⟨.tup l,false,_,_,rfl,⟨_,g,rfl,_,rfl⟩,.tup g ln rvs no,t⟩
 ·rename_i i
  refine eE1 (fun o=>aA2 fun go t=>?_) (af t)
  cases o<;>first | exact nf t | exact ns t | skip
  refine eE1 (fun p=>aA3 fun ep z5q2 z5r=>?_) (S.get rv go);obtain rfl:=z5q2;obtain⟨eq,ln,vs,n,g,rvs⟩:=z5r
  exact⟨.lst i,true,p.1,vs,rfl,⟨_,g,rfl,_,rfl⟩,.lst ep,t⟩
theorem pQ (S:St W fs ι H s){q:Sq}{b:Bool}{a i:Addr}{n:Nat}(x:fT W ι s.heap q b a)(y:bh b s.heap i a n){ks:Vl→Bool}{ke:Bool}(t:jL H q n ks ke=true) :
  ∃ items o,ay s.heap i a n items∧s.heap.get? a=some o∧o.cls = .type (cP b)∧((∃ v z,items[n]? = some v∧RV W ι s.heap v z∧ks z=true)∨(items[n]? = none∧ke=true)):=by
 have fin:∀ {items:Array Value}{l:List Vl},RVs W ι s.heap items.toList l→eAt l n ks ke=true→((∃ v z,items[n]? = some v∧RV W ι s.heap v z∧ks z=true)∨(items[n]? = none∧ke=true)):=fun {items l} r t=>by
  refine oO (eE1 fun z=>aA2 fun e t=>?_) (aA2 fun e t=>?_) (qg t)
  ·refine eE1 (fun v=>aA2 fun e1 r1=>?_) (r.get e)
   exact .inl ⟨v,z,by simpa using e1,r1,t⟩
  ·refine .inr ⟨?_,t⟩
   have:=r.length
   simp only[List.getElem?_eq_none_iff] at e
   simp only[Array.getElem?_eq_none_iff]
   rw[← Array.length_toList];omega
 cases x with
 | tup g ln r no=>exact⟨_,_,.tup y ⟨_,g,rfl,_,rfl⟩,g,rfl,fin r t⟩
 | lst ei =>
  refine eE1 (fun o=>aA2 fun go t=>?_) (af t)
  cases o<;>first | exact nf t | exact ns t | skip
  obtain⟨eq,ln,vs,m,g,rvs⟩:=S.ro ei go
  exact⟨vs,_,.list y ⟨_,g,rfl,_,rfl⟩,g,rfl,fin rvs t⟩
theorem cy (g:h.get? a=some o)(g':h.get? b=some o')(n:o.cls≠o'.cls):a≠b:=fun z=>by
 subst z;rw[g] at g';replace g':=ab g';subst g';exact n rfl
end
section
variable {prog:Program}{w:World}{A:Around}{E:Value→Shared→Prop}{s:Shared}
theorem jb (g:s.heap.get? I=some o)(c:o.cls = .type n)(d:o.data = .fields vs)
  (hn:["enumerate","zip","dict_itemiterator","dict_reverseitemiterator","odict_iterator","itertools.zip_longest","itertools.pairwise"].contains n=false)(hQ:Q () s) :
  wpAny (model prog w) A (letOwnedTupleGo target (.ref I) v) Q E s:=by
 have core:∀ a,wpAny (model prog w) A (do
   let o ← load I
   match o.cls,o.data with
   | .type n,.fields vs =>
    if["enumerate","zip","dict_itemiterator","dict_reverseitemiterator","odict_iterator","itertools.zip_longest","itertools.pairwise"].contains n&&vs[0]? == some (rawInt a) then
     rule "for.unpacks-the-owned-tuple"
     updateField I 0 .none
   | _,_=>pure ():Sem Unit) Q E s:=fun a=>by
  refine wpAny_bind (wpAny_load g ?_)
  rw[c,d]
  show wpAny _ A (if(["enumerate","zip","dict_itemiterator","dict_reverseitemiterator","odict_iterator","itertools.zip_longest","itertools.pairwise"].contains n &&
   vs[0]? == some (rawInt a))=true then _ else _) Q E s
  rw[if_neg (by rw[hn,Bool.false_and];exact Bool.false_ne_true)]
  exact wpAny_pure hQ
 cases target<;>first | exact wpAny_pure hQ | skip
 ·cases v<;>first | exact wpAny_pure hQ | exact core _
 ·cases v<;>first | exact wpAny_pure hQ | exact core _
end
inductive xW (W:Wd)(fs:List Env)(h0:Heap)(ι:Io)(h:Heap)(q:Sq)(n:Nat)(i:Addr):Prop
 | mk {b a}:bA W fs h0 ι h i→bh b h i a n→fT W ι h q b a→xW W fs h0 ι h q n i
inductive x9 (W:Wd)(fs:List Env)(h0:Heap)(ι:Io)(h:Heap)(q:Sq)(n:Nat)(e:Addr):Prop
 | mk {b a i old}:bA W fs h0 ι h e→bA W fs h0 ι h i→IsEnum h e i n old→bh b h i a n→fT W ι h q b a→x9 W fs h0 ι h q n e
inductive yg (W:Wd)(fs:List Env)(h0:Heap)(ι:Io)(h:Heap)(g:Nat)(q1 q2:Sq)(n:Nat)(z:Addr):Prop
 | mk {b1 b2 a1 a2 i1 i2 TI TO}:bA W fs h0 ι h z→bA W fs h0 ι h TI→bA W fs h0 ι h i1→bA W fs h0 ι h i2→i1≠i2→IsZip h z TI TO .none→IsPair h TI (.ref i1) (.ref i2) →
  ι g=some (TO,TO)→h0.get? TO=none→bh b1 h i1 a1 n→bh b2 h i2 a2 n→fT W ι h q1 b1 a1→fT W ι h q2 b2 a2→yg W fs h0 ι h g q1 q2 n z
inductive zc (W:Wd)(fs:List Env)(h0:Heap)(ι:Io)(h:Heap)(m n:Nat)(i:Addr):Prop
 | mk:bA W fs h0 ι h i→n≤m→IsRangeIter h i (n:Nat) ((m:Int) - (n:Nat)) 1→zc W fs h0 ι h m n i
def cn (W:Wd)(fs:List Env)(h0:Heap)(ι:Io)(h:Heap)(q:It)(n:Nat)(a:Addr):Prop:=@It.rec (fun U=>Prop) (fun q=>xW W fs h0 ι h q n a) (fun q=>x9 W fs h0 ι h q n a) (fun g q1 q2=>yg W fs h0 ι h g q1 q2 n a) (fun m=>zc W fs h0 ι h m n a) q
theorem cn.one {W:Wd}{fs:List Env}{h0:Heap}{ι:Io}{h:Heap}{q:Sq}{b:Bool}{a i:Addr}{n:Nat}(p:bA W fs h0 ι h i)(y:bh b h i a n)(s:fT W ι h q b a):cn W fs h0 ι h (.one q) n i:=xW.mk p y s
theorem cn.enm {W:Wd}{fs:List Env}{h0:Heap}{ι:Io}{h:Heap}{q:Sq}{b:Bool}{a i e:Addr} {old}{n:Nat}(p:bA W fs h0 ι h e)(p2:bA W fs h0 ι h i)(g:IsEnum h e i n old)(y:bh b h i a n)(s:fT W ι h q b a):cn W fs h0 ι h (.enm q) n e:=x9.mk p p2 g y s
theorem cn.zip (p1:bA W fs h0 ι h z)(p2:bA W fs h0 ι h TI)(p3:bA W fs h0 ι h i1)(p4:bA W fs h0 ι h i2)(ne:i1≠i2)(gz:IsZip h z TI TO .none)(gp:IsPair h TI (.ref i1) (.ref i2))
  (eg:ι g=some (TO,TO))(nw:h0.get? TO=none)(x1:bh b1 h i1 a1 n)(x2:bh b2 h i2 a2 n)(s1:fT W ι h q1 b1 a1)(s2:fT W ι h q2 b2 a2):cn W fs h0 ι h (.zip g q1 q2) n z:=yg.mk p1 p2 p3 p4 ne gz gp eg nw x1 x2 s1 s2
theorem cn.rng (p:bA W fs h0 ι h i)(le:n≤m)(g:IsRangeIter h i (n:Nat) ((m:Int) - (n:Nat)) 1):cn W fs h0 ι h (.rng m) n i:=zc.mk p le g
section
variable {W:Wd}{fs:List Env}{ι ι':Io}{H H':Hp}{s s':Shared}{h h' h0:Heap}{X:Addr→Prop}
theorem bh.kept (x:bh b h i a n)(p:bA W fs h0 ι h i)(e:Ext W X ι h ι' h')(nx:¬ X i):bh b h' i a n:=by
 revert x;refine eE1 fun o=>aA3 fun g c d=>?_
 exact⟨o,p.kept e nx g (fun es n z=>by rw[d] at z;injection z),c,d⟩
def DL (o:Obj):Prop:=(∃ es n,o.data = .dict es n)∨o.cls = .type "list"
theorem hU (d:∀ es n,o.data≠.dict es n)(c:o.cls≠.type "list"):¬ DL o:=fun z=>by
 revert z;refine oO (eE2 fun es n z=>?_) (fun z=>?_)
 ·exact d es n z
 ·exact c z
theorem cE (b:Bool):(Value.type (gm b))≠.type "tuple"∧(Value.type (gm b))≠.type "list"∧(Value.type (gm b))≠.type "enumerate"∧(Value.type (gm b))≠.type "zip":=by
 cases b<;>exact⟨by decide,by decide,by decide,by decide⟩
theorem cn.Hz {q:It}{n:Nat}{a:Addr}(x:cn W fs h0 ι h q n a)(e:Ext W X ι h ι' h')(hX:∀ b o,X b→h.get? b=some o→DL o):cn W fs h0 ι' h' q n a:=by
 have nx:∀ {b o},h.get? b=some o→(∀ es n,o.data≠.dict es n)→o.cls≠.type "list"→¬ X b:=fun g d c z=>hU d c (hX _ _ z g)
 have ni:∀ {b:Bool}{i a:Addr}{n:Nat},bh b h i a n→¬ X i:=fun y=>by
  revert y;refine eE1 fun o=>aA3 fun g c d=>?_
  exact nx g (fun es n z=>by rw[d] at z;injection z) (by rw[c];exact(cE _).2.1)
 have nl:∀ {T:String},T≠"list"→Value.type T≠.type "list":=fun n z=>by injection z with z;exact n z
 cases q with
 | one q=>obtain⟨p,x,s⟩:=x;exact .one (p.ext e) (x.kept p e (ni x)) (s.ext e)
 | enm q=>obtain⟨p1,p2,g,x,s⟩:=x;exact .enm (p1.ext e) (p2.ext e) (p1.kept e (nx g (fun U U z=>nomatch z) (nl (by decide))) g (fun U U z=>nomatch z)) (x.kept p2 e (ni x)) (s.ext e)
 | zip _ _ _ =>
  obtain⟨p1,p2,p3,p4,ne,g,gp,eg,nw,x1,x2,s1,s2⟩:=x
  exact .zip (p1.ext e) (p2.ext e) (p3.ext e) (p4.ext e) ne (p1.kept e (nx g (fun U U z=>nomatch z) (nl (by decide))) g (fun U U z=>nomatch z)) (p2.kept e (nx gp (fun U U z=>nomatch z) (nl (by decide))) gp (fun U U z=>nomatch z)) (e.sub _ _ eg) nw
   (x1.kept p3 e (ni x1)) (x2.kept p4 e (ni x2)) (s1.ext e) (s2.ext e)
 | rng m=>obtain⟨p,le,g⟩:=x;exact .rng (p.ext e) le (p.kept e (nx g (fun U U z=>nomatch z) (nl (by decide))) g (fun U U z=>nomatch z))
theorem cn.ext {q:It}{n:Nat}{a:Addr}(x:cn W fs h0 ι h q n a)(e:Ext W X ι h ι' h')(hX:∀ b o,X b→h.get? b=some o→∃ es n,o.data = .dict es n):cn W fs h0 ι' h' q n a:=x.Hz e fun b o a g=>.inl (hX b o a g)
theorem cn.ext' {q:It}{n:Nat}{a:Addr}(x:cn W fs h0 ι h q n a)(e:Ext W X ι h ι' h')(hX:∀ b o,X b→h.get? b=some o→o.cls = .type "list"):cn W fs h0 ι' h' q n a:=x.Hz e fun b o a g=>.inr (hX b o a g)
structure Stp (W:Wd)(ι:Io)(h h':Heap):Prop where
 dic:∀ b o,h.get? b=some o→DL o→h'.get? b=some o
 tk:TK W ι h ι h'
theorem aS.stp (F:aS W sc env ι h f)(e:Stp W ι h h'):aS W sc env ι h' f:=by
 refine eE1 (fun m=>aA2 fun z14q1 k=>?_) (F.ns);revert z14q1;refine eE3 fun o es ep=>aA4 fun g dd r1 r2=>?_
 exact⟨F.no,F.nb,⟨m,⟨_,es,ep,e.dic _ _ g (.inl ⟨_,_,dd⟩),dd,r1,r2⟩,fun i n x e1 e2=>(k i n x e1 e2).imp id fun⟨v,a,b⟩=>⟨v,a,b.mono (Sub.refl _) e.tk⟩⟩,F.cells⟩
end
section
inductive PN (W:Wd)(fs:List Env)(X:Addr→Prop)(ι0:Io)(h0:Heap)(ι:Io)(H:Hp)(h:Heap)(q:It)(n:Nat)(a:Addr)(ks:Vl→Bool)(v:Value)(s':Shared):Prop where
 | mk (x:Vl)(S:St W fs ι H s')(E:Ext W X ι0 h0 ι s'.heap∧Stp W ι h s'.heap)(I:cn W fs h0 ι s'.heap q (n+1) a)(r:RV W ι s'.heap v x)(t:ks x=true)
def PNo (W:Wd)(fs:List Env)(X:Addr→Prop)(ι0:Io)(h0:Heap)(ι:Io)(H:Hp)(h:Heap)(ke:Bool)(s':Shared):Prop :=
 St W fs ι H s'∧(Ext W X ι0 h0 ι s'.heap∧Stp W ι h s'.heap)∧ke=true
end
def isTup (e:Expr):Prop:=∃ es k pos,e = .Tuple es k pos
def pJ:It→Prop
 | .enm _=>True
 | .zip _ _ _=>True
 | _=>False
section
variable {W:Wd}{fs:List Env}{X:Addr→Prop}{ι0 ι:Io}{H:Hp}{s:Shared}{h0:Heap}
theorem St.Bc (S:St W fs ι H s){P:Addr→Prop}{h':Heap}(pv:∀ b,P b→bA W fs h0 ι s.heap b∧(∃ o,s.heap.get? b=some o∧¬ TC o))(hs:∀ b o,¬ P b→s.heap.get? b=some o→h'.get? b=some o){tk:Nat}{dr:Drawn} :
  St W fs ι H ⟨h',s.gens,dr,tk,s.os⟩∧TK W ι s.heap ι h' :=
 S.xm (P:=P) (tk:=tk) (dr:=dr) hs (fun b p=>⟨(pv b p).1.base,(pv b p).1.frame,(pv b p).1.src⟩)
  (fun b o p g c U=>(by refine eE1 (fun o'=>aA2 fun g' c'=>?_) ((pv b p).2);rw[g] at g';replace g':=ab g';subst g';exact absurd c c'))
  (fun U i p o ei U z=>(by
   rcases z with z | z
   ·exact absurd (.inr ⟨i,p,ei,.inl rfl⟩) (pv _ z).1.own
   ·exact absurd (.inr ⟨i,p,ei,.inr rfl⟩) (pv _ z).1.own))
end
section
variable {W:Wd}{fs:List Env}{ι:Io}{H:Hp}{s:Shared}{h0:Heap}{A:Around}{E:Value→Shared→Prop}
theorem dp (b b':Bool):(Value.type (cP b))≠.type (gm b')∧(Value.type (cP b))≠.type "enumerate"∧(Value.type (cP b))≠.type "zip":=by
 cases b<;>cases b'<;>exact⟨by decide,by decide,by decide⟩
theorem rK (x:bh b s.heap i a n)(hQ:Q () s):wpAny (model W.prog W.w) A (letOwnedTupleGo target (.ref i) v) Q E s:=by
 revert x;refine eE1 fun o=>aA3 fun g c d=>?_
 exact jb g c d (by cases b<;>decide) hQ
theorem xQ (hh:A.handled=none)(S:St W fs ι H s){X:Addr→Prop}{ι0:Io}(E0:Ext W X ι0 h0 ι s.heap){q:Sq}{n:Nat}{a:Addr}(x:cn W fs h0 ι s.heap (.one q) n a){ks:Vl→Bool}{ke:Bool}(t:nY H (.one q) n ks ke=true)(target:Expr){E':Value→Shared→Prop} :
  wpAny (model W.prog W.w) A (pyNext (.ref a)) (fun r s1=>match r with
   | none=>PNo W fs X ι0 h0 ι H s.heap ke s1
   | some v=>wpAny (model W.prog W.w) A (letOwnedTupleGo target (.ref a) v) (fun U s2=>PN W fs X ι0 h0 ι H s.heap (.one q) n a ks v s2) E' s1) E s:=by
 cases x with
 | @mk b src p y sq =>
  refine eE2 (fun items o=>aA4 fun si g c r=>?_) (pQ S sq y (ks:=ks) (ke:=ke) t)
  refine eE1 (fun oi=>aA3 fun gi ci di=>?_) (id y)
  have ne:src≠a:=cy g gi (by rw[c,ci];exact(dp b b).1)
  have go:∀ {h':Heap}{tk:Nat},Heap.ExtBut a s.heap h'→St W fs ι H ⟨h',s.gens,s.drawn,tk,s.os⟩∧TK W ι s.heap ι h':=fun {h' tk} hs =>
   S.Bc (P:=(· = a)) (fun b z=>by subst z;exact⟨p,⟨oi,gi,gX ci⟩⟩) (fun b o nz e=>hs b o nz e)
  have fin:∀ {h':Heap},Heap.ExtBut a s.heap h'→TK W ι s.heap ι h'→Ext W X ι0 h0 ι h'∧Stp W ι s.heap h':=fun {h'} hs tk=>⟨E0.fin (P:=(· = a)) (fun b o nz e=>hs b o nz e) (fun b z=>by subst z;exact p.new) tk,fun b o g d=>hs b o (fun z=>by subst z;rw[gi] at g;replace g:=ab g;subst g;exact hU (fun U U z=>by rw[di] at z;injection z) (by rw[ci];exact(cE _).2.1) d) g,tk⟩
  revert r;refine oO (eE2 fun v z=>aA3 fun hv rv t=>?_) (aA2 fun hv t=>?_)
  ·refine pW si ne hv fun h' si' sb=>?_
   have K:=go (tk:=s.toks) sb.extBut
   have K2:Ext W (· = a) ι s.heap ι h':=.many (fun b o nz e=>sb.extBut b o nz e) (fun b z=>by subst z;exact si'.at) K.2
   have y':bh b h' a src (n+1):=si'.gu (sb.extBut _ _ ne g) c
   exact rK (s:={ s with heap:=h' }) y' ⟨z,K.1,fin sb.extBut K.2,.one (p.ext K2) y' (sq.ext K2),rv.ext K2,t⟩
  ·refine rI hh si hv fun h' sb=>?_
   have K:=go (tk:=s.toks) sb
   exact⟨K.1,fin sb K.2,t⟩
end
theorem vI (prog:Program)(w:World)(A:Around)(hh:A.handled=none)(it src:Addr)(items:Array Value)(n:Nat)(hn:items[n]? = none):Draws prog w A it [it,src] n (fun U U=>True) (fun i h=>i=n∧ay h it src n items) where
 live:=fun U U st=>st.2.at
 frame:=fun U U U st hk=>⟨st.1,st.2.mv (fun o e=>hk it (by simp) o e) fun o e=>hk src (by simp) o e⟩
 item:=fun i s Q E hi st hQ=>absurd st.1 (Nat.ne_of_lt hi)
 done:=fun s Q E st hE=>dB hh st.2 hn hE
theorem pH (h:isTup target):∃ es k pos,target = .Tuple es k pos:=h
section
variable {W:Wd}{fs:List Env}{ι:Io}{H:Hp}{s:Shared}{h0:Heap}{A:Around}{E:Value→Shared→Prop}
theorem wQ (hh:A.handled=none)(S:St W fs ι H s)(E0:Ext W X ι0 h0 ι s.heap)(x:cn W fs h0 ι s.heap (.rng m) n a)(t:nY H (.rng m) n ks ke=true)(target:Expr) :
  wpAny (model W.prog W.w) A (pyNext (.ref a)) (fun r s1=>match r with
   | none=>PNo W fs X ι0 h0 ι H s.heap ke s1
   | some v=>wpAny (model W.prog W.w) A (letOwnedTupleGo target (.ref a) v) (fun U s2=>PN W fs X ι0 h0 ι H s.heap (.rng m) n a ks v s2) E' s1) E s:=by
 cases x with
 | mk p le g =>
  have go:∀ {h':Heap}{tk:Nat},Heap.ExtBut a s.heap h'→St W fs ι H ⟨h',s.gens,s.drawn,tk,s.os⟩∧TK W ι s.heap ι h':=fun {h' tk} hs =>
   S.Bc (P:=(· = a)) (fun b z=>by subst z;exact⟨p,⟨_,g,TC.ne rfl (by decide) (by decide)⟩⟩) (fun b o nz e=>hs b o nz e)
  have fin:∀ {h':Heap},Heap.ExtBut a s.heap h'→TK W ι s.heap ι h'→Ext W X ι0 h0 ι h'∧Stp W ι s.heap h':=fun {h'} hs tk=>⟨E0.fin (P:=(· = a)) (fun b o nz e=>hs b o nz e) (fun b z=>by subst z;exact p.new) tk,fun b o g' d=>hs b o (fun z=>by subst z;rw[g] at g';replace g':=ab g';subst g';exact hU (by intro _ _ z;injection z) (fun z=>by injection z with z;exact absurd z (by decide)) d) g',tk⟩
  have t:(@Bool.rec (fun U=>Bool) ke (ks (.int (.ofNat n))) (Nat.ble (Nat.succ n) m))=true:=t
  cases q:Nat.ble (Nat.succ n) m with
  | true =>
   rw[q] at t
   have lt:n < m:=bS q
   refine wpAny_pyNext_range_item g (by omega) fun h' g' sb=>?_
   have K:=go (tk:=s.toks+1) sb.extBut
   have K2:Ext W (· = a) ι s.heap ι h':=.many (fun b o nz e=>sb.extBut b o nz e) (fun b z=>by subst z;exact⟨_,g'⟩) K.2
   refine jb (s:={ s with heap:=h',toks:=s.toks+1 }) g' rfl rfl (by decide) ⟨.int n,K.1,fin sb.extBut K.2,.rng (p.ext K2) lt ?_,.int _ _,t⟩
   have e1:((n:Nat):Int)+1=((n+1:Nat):Int):=by omega
   have e2:(m:Int) - (n:Nat) - 1=(m:Int) - ((n+1:Nat):Int):=by omega
   rw[e1,e2] at g'
   exact g'
  | false =>
   rw[q] at t
   have nlt:¬ n < m:=fun z=>by rw[Nat.ble_eq_true_of_le z] at q;exact tf q
   refine wpAny_pyNext_range_end hh g (by omega) fun h' sb=>?_
   have K:=go (tk:=s.toks) sb
   exact⟨K.1,fin sb K.2,t⟩
theorem xG (hh:A.handled=none)(S:St W fs ι H s){X:Addr→Prop}{ι0:Io}(E0:Ext W X ι0 h0 ι s.heap){q:Sq}{n:Nat}{a:Addr}(x:cn W fs h0 ι s.heap (.enm q) n a){ks:Vl→Bool}{ke:Bool}(t:nY H (.enm q) n ks ke=true){target:Expr}(ht:isTup target){E':Value→Shared→Prop} :
  wpAny (model W.prog W.w) A (pyNext (.ref a)) (fun r s1=>match r with
   | none=>PNo W fs X ι0 h0 ι H s.heap ke s1
   | some v=>wpAny (model W.prog W.w) A (letOwnedTupleGo target (.ref a) v) (fun U s2=>PN W fs X ι0 h0 ι H s.heap (.enm q) n a ks v s2) E' s1) E s:=by
 refine eE3 (fun es kk pos z1q3=>?_) (pH ht);obtain rfl:=z1q3
 cases x with
 | @mk b src i old p1 p2 ge y sq =>
  refine eE2 (fun items o=>aA4 fun si g c r=>?_) (pQ S sq y (ks:=fun v=>ks (.tup [.int (.ofNat n),v])) (ke:=ke) t)
  refine eE1 (fun oi=>aA3 fun gi ci di=>?_) (id y)
  have ne:src≠i:=cy g gi (by rw[c,ci];exact(dp b b).1)
  have nea:src≠a:=cy g ge (by rw[c];exact(dp b b).2.1)
  have nai:a≠i:=cy ge gi (by rw[ci];exact(cE b).2.2.1.symm)
  have D:=draws W.prog W.w A.in1 (by exact hh) i src ne items
  have go:∀ {h':Heap}{tk:Nat},(∀ b o,b≠a→b≠i→s.heap.get? b=some o→h'.get? b=some o)→St W fs ι H ⟨h',s.gens,s.drawn,tk,s.os⟩∧TK W ι s.heap ι h':=fun {h' tk} hs =>
   S.Bc (P:=fun b=>b=a∨b=i) (fun b z=>by
    rcases z with rfl | rfl
    ·exact⟨p1,⟨_,ge,TC.ne rfl (by decide) (by decide)⟩⟩
    ·exact⟨p2,⟨oi,gi,gX ci⟩⟩) (fun b o nz e=>hs b o (fun z=>nz (.inl z)) (fun z=>nz (.inr z)) e)
  have fin:∀ {h':Heap},(∀ b o,b≠a→b≠i→s.heap.get? b=some o→h'.get? b=some o)→TK W ι s.heap ι h'→Ext W X ι0 h0 ι h'∧Stp W ι s.heap h':=fun {h'} hs tk=>⟨E0.fin (P:=fun b=>b=a∨b=i) (fun b o nz e=>hs b o (fun z=>nz (.inl z)) (fun z=>nz (.inr z)) e) (fun b z=>by
   rcases z with rfl | rfl
   ·exact p1.new
   ·exact p2.new) tk,fun b o g' d=>hs b o (fun z=>by subst z;rw[ge] at g';replace g':=ab g';subst g';exact hU (by intro _ _ z;injection z) (fun z=>by injection z with z;exact absurd z (by decide)) d) (fun z=>by subst z;rw[gi] at g';replace g':=ab g';subst g';exact hU (fun U U z=>by rw[di] at z;injection z) (by rw[ci];exact(cE _).2.1) d) g',tk⟩
  revert r;refine oO (eE2 fun v z=>aA3 fun hv rv t=>?_) (aA2 fun hv t=>?_)
  ·have lt:n < items.size:=by
    rcases Array.getElem?_eq_some_iff.mp hv with ⟨h,_⟩;exact h
   refine wpAny_pyNext_enum_itemD D ge si lt nai (by simp;exact⟨nai,nea.symm⟩) fun x h' tk hx ge' si' gT hsz hs=>?_
   have hx:items[n]? = some x:=hx
   rw[hv] at hx;replace hx:=ab hx;subst hx
   refine wpAny_letOwnedTupleGo_enum (s:={ s with heap:=h',toks:=tk+1 }) ge' fun h'' ge'' sb=>?_
   have hs2:∀ b o,b≠a→b≠i→s.heap.get? b=some o→h''.get? b=some o:=fun b o n1 n2 e=>sb.extBut b o n1 (hs b o n1 n2 e)
   have K:=go (tk:=tk+1) hs2
   have si'':ay h'' i src (n+1) items:=si'.extBut sb.extBut nai.symm nea
   have K2:Ext W (fun b=>b=a∨b=i) ι s.heap ι h'':=.many (fun b o nz e=>hs2 b o (fun z=>nz (.inl z)) (fun z=>nz (.inr z)) e) (fun b z=>by
    rcases z with rfl | rfl
    ·exact⟨_,ge''⟩
    ·exact si''.at) K.2
   have nT:s.heap.get? s.heap.objs.size=none:=aw (Nat.le_refl _)
   have Ta:s.heap.objs.size≠a:=fun z=>by rw[z,ge] at nT;exact zsn nT
   have y':bh b h'' i src (n+1):=si''.gu (hs2 _ _ nea ne g) c
   have e1:((n:Nat):Int)+1=((n+1:Nat):Int):=by omega
   rw[e1] at ge''
   exact⟨_,K.1,fin hs2 K.2,.enm (p1.ext K2) (p2.ext K2) ge'' y' (sq.ext K2),.tup (sb.extBut _ _ Ta gT) (by show 2≤1000;simp +arith only) (.cons (.int _ _) (.cons (rv.ext K2) .nil)) (S.fv nT),t⟩
  ·refine wpAny_pyNext_enum_endD (vI W.prog W.w A.in1 (by exact hh) i src items n hv) ge ⟨rfl,si⟩ fun h' sb=>?_
   have hs2:∀ b o,b≠a→b≠i→s.heap.get? b=some o→h'.get? b=some o:=fun b o n1 n2 e=>sb b o n2 e
   have K:=go (tk:=s.toks) hs2
   exact⟨K.1,fin hs2 K.2,t⟩
end
section
variable {W:Wd}{fs:List Env}{ι:Io}{H:Hp}{s:Shared}{h0:Heap}{A:Around}{E:Value→Shared→Prop}
theorem yc (hh:A.handled=none)(S:St W fs ι H s)(E0:Ext W X ι0 h0 ι s.heap)(x:cn W fs h0 ι s.heap (.zip gg q1 q2) n a)(t:nY H (.zip gg q1 q2) n ks ke=true)(ht:isTup target) :
  wpAny (model W.prog W.w) A (pyNext (.ref a)) (fun r s1=>match r with
   | none=>PNo W fs X ι0 h0 ι H s.heap ke s1
   | some v=>wpAny (model W.prog W.w) A (letOwnedTupleGo target (.ref a) v) (fun U s2=>PN W fs X ι0 h0 ι H s.heap (.zip gg q1 q2) n a ks v s2) E' s1) E s:=by
 refine eE3 (fun es kk pos z1q3=>?_) (pH ht);obtain rfl:=z1q3
 cases x with
 | @mk b1 b2 a1 a2 i1 i2 TI TO pz pTI p1 p2 ne12 gz gTI eg nTO y1 y2 sq1 sq2 =>
  refine bC fun G=>?_;refine eE1 (fun ob=>aA2 fun gb t=>?_) (af t)
  cases ob<;>first | exact nf t | exact ns t | skip
  have t:jL H q1 n (fun v=>jL H q2 n (fun w=>ks (.tup [v,w])) ke) (jL H q2 n (fun U=>ke) ke)=true:=t
  refine aA2 (fun U=>eE2 fun xa xb gTO=>?_) (S.ro eg gb)
  have gTO:IsPair s.heap TO xa xb:=gTO
  refine eE1 (fun oi1=>aA3 fun gi1 ci1 di1=>?_) (id y1)
  refine eE1 (fun oi2=>aA3 fun gi2 ci2 di2=>?_) (id y2)
  have oTO:Own W ι TO:=.inr ⟨gg,_,eg,.inl rfl⟩
  have bTO:=S.fresh TO oTO
  have nTz:TO≠a:=fun z=>pz.own (z▸oTO)
  have nT1:TO≠i1:=fun z=>p1.own (z▸oTO)
  have nT2:TO≠i2:=fun z=>p2.own (z▸oTO)
  have nTT:TI≠TO:=fun z=>pTI.own (z▸oTO)
  have cz1:∀ b,(Value.type "zip")≠.type (gm b):=fun b=>(cE b).2.2.2.symm
  have ct1:∀ b,(Value.type "tuple")≠.type (gm b):=fun b=>(cE b).1.symm
  have n1z:i1≠a:=(cy gz gi1 (by rw[ci1];exact cz1 _)).symm
  have n2z:i2≠a:=(cy gz gi2 (by rw[ci2];exact cz1 _)).symm
  have nTIz:TI≠a:=cy gTI gz (fun z=>by injection z with z;exact absurd z (by decide))
  have nTI1:TI≠i1:=cy gTI gi1 (by rw[ci1];exact ct1 _)
  have nTI2:TI≠i2:=cy gTI gi2 (by rw[ci2];exact ct1 _)
  have srcNe:∀ {q b src},fT W ι s.heap q b src→(∃ o,s.heap.get? src=some o∧o.cls = .type (cP b))→src≠a∧src≠TO∧src≠i1∧src≠i2:=fun {q b src} sq g=>by
   revert g;refine eE1 fun o=>aA2 fun g c=>?_
   refine⟨cy g gz (by rw[c];exact(dp b b).2.2),?_,cy g gi1 (by rw[c,ci1];exact(dp _ _).1),cy g gi2 (by rw[c,ci2];exact(dp _ _).1)⟩
   cases sq with
   | tup _ _ _ no=>exact fun z=>no (z▸oTO)
   | lst ei =>
    refine cy g gTO ?_
    rw[c]
    exact fun z=>by injection z with z;exact absurd z (by decide)
  apply G;let P:Addr→Prop:=fun b=>b=a∨b=TO∨b=i1∨b=i2
  have hs':∀ {h':Heap},(∀ c o,c≠a→c≠TO→c≠i1→c≠i2→s.heap.get? c=some o→h'.get? c=some o)→∀ b o,¬ P b→s.heap.get? b=some o→h'.get? b=some o:=fun hs b o np e =>
   hs b o (fun z=>np (.inl z)) (fun z=>np (.inr (.inl z))) (fun z=>np (.inr (.inr (.inl z)))) (fun z=>np (.inr (.inr (.inr z)))) e
  have go:∀ {h':Heap}{tk:Nat},(∀ b o,¬ P b→s.heap.get? b=some o→h'.get? b=some o)→(∃ u v,IsPair h' TO u v)→St W fs ι H ⟨h',s.gens,s.drawn,tk,s.os⟩∧TK W ι s.heap ι h':=fun {h' tk} hs pr =>
   S.xm (P:=P) hs (fun b z=>by
    rcases z with rfl | rfl | rfl | rfl
    ·exact⟨pz.base,pz.frame,pz.src⟩
    ·exact⟨bTO.1,bTO.2,(S.aF gg _ eg).1⟩
    ·exact⟨p1.base,p1.frame,p1.src⟩
    ·exact⟨p2.base,p2.frame,p2.src⟩) (fun b o z g c U=>by
    rcases z with rfl | rfl | rfl | rfl
    ·rw[gz] at g;replace g:=ab g;subst g;exact(TC.ne rfl (by decide) (by decide) c).elim
    ·exact oTO
    ·rw[gi1] at g;replace g:=ab g;subst g;exact(gX ci1 c).elim
    ·rw[gi2] at g;replace g:=ab g;subst g;exact(gX ci2 c).elim) (fun U i p o ei go z=>by
    by_cases e:i=gg
    ·subst e
     rw[eg] at ei;replace ei:=ab ei;subst ei
     rw[gb] at go;replace go:=ab go;subst go
     exact⟨rfl,pr⟩
    ·have ap:=S.apart i gg _ _ ei eg e
     have o1:Own W ι p.1:=.inr ⟨i,p,ei,.inl rfl⟩
     have o2:Own W ι p.2:=.inr ⟨i,p,ei,.inr rfl⟩
     rcases z with (z | z | z | z)| (z | z | z | z)
     ·exact absurd (z▸o1) pz.own
     ·exact absurd z ap.1
     ·exact absurd (z▸o1) p1.own
     ·exact absurd (z▸o1) p2.own
     ·exact absurd (z▸o2) pz.own
     ·exact absurd z ap.2.2.1
     ·exact absurd (z▸o2) p1.own
     ·exact absurd (z▸o2) p2.own)
  have fin:∀ {h':Heap},(∀ b o,¬ P b→s.heap.get? b=some o→h'.get? b=some o)→TK W ι s.heap ι h'→Ext W X ι0 h0 ι h'∧Stp W ι s.heap h':=fun {h'} hs tk=>⟨E0.fin (P:=P) hs (fun b z=>by
   rcases z with rfl | rfl | rfl | rfl
   ·exact pz.new
   ·exact nTO
   ·exact p1.new
   ·exact p2.new) tk,fun b o g' d=>hs b o (fun z=>by
   rcases z with rfl | rfl | rfl | rfl
   ·rw[gz] at g';replace g':=ab g';subst g';exact hU (by intro _ _ z;injection z) (fun z=>by injection z with z;exact absurd z (by decide)) d
   ·rw[gTO] at g';replace g':=ab g';subst g';exact hU (by intro _ _ z;injection z) (fun z=>by injection z with z;exact absurd z (by decide)) d
   ·rw[gi1] at g';replace g':=ab g';subst g';exact hU (fun U U z=>by rw[di1] at z;injection z) (by rw[ci1];exact(cE _).2.1) d
   ·rw[gi2] at g';replace g':=ab g';subst g';exact hU (fun U U z=>by rw[di2] at z;injection z) (by rw[ci2];exact(cE _).2.1) d) g',tk⟩
  have fail:∀ {h':Heap}{tk:Nat} ,(∀ b o,¬ P b→s.heap.get? b=some o→h'.get? b=some o)→(∃ u v,IsPair h' TO u v)→ke=true→PNo W fs X ι0 h0 ι H s.heap ke ⟨h',s.gens,s.drawn,tk,s.os⟩:=fun {h' tk} hs pr t=>by
   have K:=go (tk:=tk) hs pr
   exact⟨K.1,fin hs K.2,t⟩
  have apt:∀ {it1 it2:Array Value},ay s.heap i1 a1 n it1→ay s.heap i2 a2 n it2→(∃ o,s.heap.get? a1=some o∧o.cls = .type (cP b1))→(∃ o,s.heap.get? a2=some o∧o.cls = .type (cP b2))→ZipApart a TI TO i1 i2 a1 a2:=fun U U g1 g2=>by
   have u1:=srcNe sq1 g1
   have u2:=srcNe sq2 g2
   exact⟨nTIz,nTz,n1z,n2z,nTT,nTI1,nTI2,nT1,nT2,ne12,u1.1,u1.2.1,u1.2.2.1,u1.2.2.2,u2.1,u2.2.1,u2.2.2.1,u2.2.2.2⟩
  have ends:∀ {it1 it2:Array Value},ay s.heap i1 a1 n it1→ay s.heap i2 a2 n it2→(∃ o,s.heap.get? a1=some o∧o.cls = .type (cP b1))→(∃ o,s.heap.get? a2=some o∧o.cls = .type (cP b2)) →
    (it1[n]? = none∨it2[n]? = none)→ke=true→wpAny (model W.prog W.w) A (pyNext (.ref a)) (fun r s1=>match r with
   | none=>PNo W fs X ι0 h0 ι H s.heap ke s1
   | some v=>wpAny (model W.prog W.w) A (letOwnedTupleGo (.Tuple es kk pos) (.ref a) v) (fun U s2=>PN W fs X ι0 h0 ι H s.heap (.zip gg q1 q2) n a ks v s2) E' s1) E s:=fun si1 si2 g1 g2 he t =>
   eU hh (apt si1 si2 g1 g2) gz gTI gTO si1 si2 he fun h' hk pr=>fail (tk:=s.toks) (hs' hk) pr t
  refine bC fun G=>?_;refine eE2 (fun it1 o1=>aA4 fun si1 g1 c1 r1=>?_) (pQ S sq1 y1 (ks:=fun v=>jL H q2 n (fun w=>ks (.tup [v,w])) ke) (ke:=jL H q2 n (fun U=>ke) ke) t)
  revert r1;refine oO (eE2 fun v1 z1=>aA3 fun hv1 rv1 t=>?_) (aA2 fun hv1 t=>?_)
  ·refine eE2 (fun it2 o2=>aA4 fun si2 g2 c2 r2=>?_) (pQ S sq2 y2 (ks:=fun w=>ks (.tup [z1,w])) (ke:=ke) t)
   revert r2;refine oO (eE2 fun v2 z2=>aA3 fun hv2 rv2 t=>?_) (aA2 fun hv2 t=>?_)
   ·apply G;refine fk (apt si1 si2 ⟨o1,g1,c1⟩ ⟨o2,g2,c2⟩) gz gTI gTO si1 si2 hv1 hv2 fun h' gz' gTO' si1' si2' gT hsz hk=>?_
    refine wpAny_letOwnedTupleGo_zip (s:={ s with heap:=h' }) gz' fun h'' gz'' sb=>?_
    have hk2:∀ c o,c≠a→c≠TO→c≠i1→c≠i2→s.heap.get? c=some o→h''.get? c=some o:=fun c o n1 n2 n3 n4 e=>sb.extBut _ _ n1 (hk c o n1 n2 n3 n4 e)
    have gTO'':IsPair h'' TO v1 v2:=sb.extBut _ _ nTz gTO'
    have K:=go (tk:=s.toks) (hs' hk2) ⟨_,_,gTO''⟩
    have u1:=srcNe sq1 ⟨o1,g1,c1⟩
    have u2:=srcNe sq2 ⟨o2,g2,c2⟩
    have si1'':ay h'' i1 a1 (n+1) it1:=si1'.extBut sb.extBut n1z u1.1
    have si2'':ay h'' i2 a2 (n+1) it2:=si2'.extBut sb.extBut n2z u2.1
    have y1':bh b1 h'' i1 a1 (n+1):=si1''.gu (hk2 _ _ u1.1 u1.2.1 u1.2.2.1 u1.2.2.2 g1) c1
    have y2':bh b2 h'' i2 a2 (n+1):=si2''.gu (hk2 _ _ u2.1 u2.2.1 u2.2.2.1 u2.2.2.2 g2) c2
    have K2:Ext W P ι s.heap ι h'':=.many (hs' hk2) (fun b z=>by
     rcases z with rfl | rfl | rfl | rfl
     ·exact⟨_,gz''⟩
     ·exact⟨_,gTO''⟩
     ·exact si1''.at
     ·exact si2''.at) K.2
    have nT:s.heap.get? s.heap.objs.size=none:=aw (Nat.le_refl _)
    have Ta:s.heap.objs.size≠a:=fun z=>by rw[z,gz] at nT;exact zsn nT
    have gTI'':IsPair h'' TI (.ref i1) (.ref i2):=hk2 _ _ nTIz nTT nTI1 nTI2 gTI
    exact⟨_,K.1,fin (hs' hk2) K.2,.zip (pz.ext K2) (pTI.ext K2) (p1.ext K2) (p2.ext K2) ne12 gz'' gTI'' eg nTO y1' y2' (sq1.ext K2) (sq2.ext K2),
     .tup (sb.extBut _ _ Ta gT) (by show 2≤1000;simp +arith only) (.cons (rv1.ext K2) (.cons (rv2.ext K2) .nil)) (S.fv nT),t⟩
   ·apply G;exact ends si1 si2 ⟨o1,g1,c1⟩ ⟨o2,g2,c2⟩ (.inr hv2) t
  ·refine eE2 (fun it2 o2=>aA4 fun si2 g2 c2 r2=>?_) (pQ S sq2 y2 (ks:=fun U=>ke) (ke:=ke) t)
   have t:ke=true:=by revert r2;refine oO (eE2 fun U U=>aA3 fun U U t=>?_) (aA2 fun U t=>?_)<;>exact t
   apply G;exact ends si1 si2 ⟨o1,g1,c1⟩ ⟨o2,g2,c2⟩ (.inl hv1) t
end
section
variable {W:Wd}{fs:List Env}{ι:Io}{H:Hp}{s:Shared}{h0:Heap}{A:Around}{E:Value→Shared→Prop}
theorem sZ (hh:A.handled=none)(S:St W fs ι H s){X:Addr→Prop}{ι0:Io}(E0:Ext W X ι0 h0 ι s.heap){q:It}{n:Nat}{a:Addr}(x:cn W fs h0 ι s.heap q n a){ks:Vl→Bool}{ke:Bool}(t:nY H q n ks ke=true){target:Expr}(ht:pJ q→isTup target){E':Value→Shared→Prop} :
  wpAny (model W.prog W.w) A (pyNext (.ref a)) (fun r s1=>match r with
   | none=>PNo W fs X ι0 h0 ι H s.heap ke s1
   | some v=>wpAny (model W.prog W.w) A (letOwnedTupleGo target (.ref a) v) (fun U s2=>PN W fs X ι0 h0 ι H s.heap q n a ks v s2) E' s1) E s:=by
 cases q with
 | one q=>exact xQ hh S E0 x t target
 | enm q=>exact xG hh S E0 x t (ht trivial)
 | zip g q1 q2=>exact yc hh S E0 x t (ht trivial)
 | rng m=>exact wQ hh S E0 x t target
inductive PI (W:Wd)(fs:List Env)(ι:Io)(s:Shared)(tn:Prop)(k:It→Hp→Bool)(v:Value)(s':Shared):Prop where
 | mk (ι':Io)(H':Hp)(q:It)(a:Addr)(ev:v = .ref a)(S:St W fs ι' H' s')(E:Ext W noX ι s.heap ι' s'.heap)(I:cn W fs s.heap ι' s'.heap q 0 a)(n:pJ q→tn)(t:k q H'=true)
end
def SI (W:Wd)(sc:Sc)(tn:Prop)(it:CI)(ex:Expr):Prop:=∀ (r:Rt)(d:Nat)(A:Around)(fs:List Env)(env:Env)(f:Fm)(ι:Io)(H:Hp)(s:Shared)(k:It→Hp→Bool)(e:KE)(E:Value→Shared→Prop),
 Here W sc r d A fs env f ι H s→it r f H k e=true→wpAny (model W.prog W.w) A (eval ex env) (fun x s1=>wpAny (model W.prog W.w) A (pyIter x) (PI W fs ι s tn k) E s1) (PE W fs noX ι s e) s
section
variable {W:Wd}{sc:Sc}
theorem mO (hi:SI W sc tn it iter)(ht:STg W sc t target)(hb:wY W sc r d b body)(tt:tn→isTup target)
  (hsI:∀ env x,foldedSetIterable iter env x=pure x):SSA W sc r d (Ab t it b) (.For target iter body [] pos):=fun A fs env f ι H s kn kc kr ke h tr=>by
 refine wpAny_For (wpAny_mono (hi r d A fs env f ι H s (fun i h=>xR r t b i kn kr ke 2000 0 f h) (fun i h=>ke i f h) _ h tr) (fun x s1 P=>wpAny_mono P (fun v s2 P=>?_) fun U U z=>z) fun v s2 z=>z.px h.fr) (hs:=hsI env)
 refine bC fun G=>?_;obtain⟨ι2,H2,q,a,rfl,S2,E2,I2,tq,t2⟩:=P
 apply G;refine codeAny_forLoop_any (I:=fun m s'=>∃ n ι' H' f',St W fs ι' H' s'∧Ext W (atL env) ι s.heap ι' s'.heap∧aS W sc env ι' s'.heap f'∧cn W fs s.heap ι' s'.heap q n a∧xR r t b q kn kr ke m n f' H'=true) (fun m s1 I1=>?_) 2000 ⟨0,ι2,H2,f,S2,E2.atl,h.fr.ext E2 id,I2,t2⟩
 revert I1;refine eE4 fun n ι1 H1 f1=>aA5 fun S1 E1 F1 J1 t1=>?_
 cases m with
 | zero=>exact ft t1
 | succ m =>
  have t1:nY H1 q n (fun v=>t r f1 v H1 (fun f h=>b r f h (fun f h=>xR r t b q kn kr ke m (n+1) f h) (fun f h=>xR r t b q kn kr ke m (n+1) f h) kr ke) ke) (kn f1 H1)=true:=t1
  refine wpAny_mono (sZ h.ar.handled S1 E1 J1 t1 (target:=target) (fun z=>tt (tq z)) (E':=notedBy (model W.prog W.w) A env (cameBackBy (model W.prog W.w) A env (PXE W sc fs env ι s ke)))) (fun rr s3 P=>?_) fun U U z=>z
  cases rr with
  | none =>
   refine bC fun G=>?_;revert P;refine aA3 fun S3 z3q1 t3=>?_;obtain⟨E3,st⟩:=z3q1
   apply G;exact wpAny_execs_nil ⟨ι1,H1,f1,S3,E3,F1.stp st,t3⟩
  | some v =>
   refine wpAny_mono P (fun U s4 P=>?_) fun U U z=>z
   refine bC fun G=>?_;obtain⟨x,S4,⟨E4,st⟩,J4,rv,t4⟩:=P
   have F4:=F1.stp st
   have dictX:∀ {ι5:Io}{s5:Shared}{f5:Fm},aS W sc env ι5 s5.heap f5→∀ b o,atL env b→s5.heap.get? b=some o→∃ es n,o.data = .dict es n:=fun F b o z g=>by
    refine eE1 (fun m=>aA2 fun z5q1 U=>?_) (F.ns);revert z5q1;refine eE3 fun o2 es ep=>aA3 fun g2 dd U=>?_
    rw[show b=env.locals from z,g2] at g;replace g:=ab g;subst g
    exact⟨es,ep,dd⟩
   have out:∀ {ι5:Io}{s5:Shared} (v) (s6),Ext W (atL env) ι s.heap ι5 s5.heap→PXE W sc fs env ι5 s5 ke v s6→notedBy (model W.prog W.w) A env (cameBackBy (model W.prog W.w) A env (PXE W sc fs env ι s ke)) v s6:=fun v s6 E z=>qe h (z.from E)
   apply G;refine wpAny_mono (ht r d A fs env f1 ι1 H1 s4 v x _ ke (h.with S4 F4) rv t4) (fun U s5 P=>?_) fun v s5 z=>out v s5 E4 z
   refine bC fun G=>?_;obtain⟨ι5,H5,f5,S5,E5,F5,t5⟩:=P
   have J5:=J4.ext E5 (dictX F4)
   apply G;refine wpAny_mono (hb A fs env f5 ι5 H5 s5 _ _ kr ke (h.with S5 F5) t5) (fun fl s6 P=>?_) fun v s6 z=>out v s6 (E4.trans E5) z
   refine bC fun G=>?_;obtain⟨ι6,H6,f6,S6,E6,F6,t6⟩:=P
   have E16:=E4.trans (E5.trans E6)
   have J6:=J5.ext E6 (dictX F5)
   cases fl with
   | next=>apply G;exact⟨m,Nat.lt_succ_self m,n+1,ι6,H6,f6,S6,E16,F6,J6,t6⟩
   | cont=>apply G;exact⟨m,Nat.lt_succ_self m,n+1,ι6,H6,f6,S6,E16,F6,J6,t6⟩
   | brk=>exact t6.elim
   | ret v=>apply G;exact⟨ι6,H6,f6,S6,E16,F6,t6⟩
theorem Dh (hi:SI W sc tn it iter)(ht:STg W sc t target)(hb:SSs W sc b body)(tt:tn→isTup target)
  (hsI:∀ env x,foldedSetIterable iter env x=pure x):SS W sc (Ab t it b) (.For target iter body [] pos):=fun r d=>mO hi ht (hb r d) tt hsI
end
section
variable {W:Wd}{sc:Sc}{fs:List Env}{ι ι0:Io}{H:Hp}{s:Shared}{h0 h':Heap}{X:Addr→Prop}
theorem St.ew (S:St W fs ι H s)(E:Ext W X ι0 h0 ι s.heap)(n:s.heap.get? a=none)(g:∃ o,h'.get? a=some o):bA W fs h0 ι h' a where
 new:=E.none n
 base:=S.dg n
 own:=S.fv n
 frame:=fun m=>by
  obtain⟨o,g⟩:=S.lh m
  rw[n] at g;exact zns g
 there:=g
theorem Ie (hx:SX W sc x ex):SI W sc tn (iit x) ex:=fun r d A fs env f ι H s k e E h t=>by
 refine wpAny_mono (hx r d A fs env f ι H s _ e h t) (fun v s1 P=>?_) fun U U z=>z
 obtain⟨ι1,H1,y,S1,E1,rv,t⟩:=P
 refine eE4 (fun q b a items=>aA4 fun z3q4 src sq t=>?_) (jG S1 rv t);obtain rfl:=z3q4
 refine dC src ?_
 have K:=aj s1.heap (dF b a)
 have n1:s1.heap.get? s1.heap.objs.size=none:=aw (Nat.le_refl _)
 have g:(s1.heap.push (dF b a)).get? s1.heap.objs.size=some (dF b a):=Heap.get?_push_size _ rfl
 have E2:Ext W noX ι1 s1.heap ι1 (s1.heap.push (dF b a)):=.of_keeps K
 exact⟨ι1,H1,.one q,_,rfl,S1.keeps K,E1.trans E2,.one (S1.ew E1 n1 ⟨_,g⟩) ⟨_,g,rfl,rfl⟩ (sq.ext E2),(fun z=>z.elim),t⟩
theorem gV (hn:sc.names.lookup n=some .globalImplicit)(hg:nsIn W.K mainGlobals n=some none)(hb:nsIn W.K builtinsNs n=some (some (.type T)))(hd:(n == ("__debug__" : Str))=false)
  (hl:SA W sc l es)(he:∀ env,eval (.Call (.Name n p) es [] pos) env=(do callWith pos (← eval (.Name n p) env) [] (backTo pos (starEach es env)) (backToKw pos (keywordEach [] env))))
  (h:Here W sc r d A fs env f ι H s)(t:l r f H k e=true)
  (hQ:∀ vs s1,PL W fs noX ι s k vs s1→wpAny (model W.prog W.w) A (call (.type T) vs) Q (PE W fs noX ι s e) s1):wpAny (model W.prog W.w) A (eval (.Call (.Name n p) es [] pos) env) Q (PE W fs noX ι s e) s:=by
 rw[he]
 refine wpAny_bind (wpAny_Name ?_ hd)
 rw[loadName_read h.eo.kind ((h.kindOf n).trans hn)]
 unfold loadGlobal
 rw[h.eo.globals,h.eo.builtins]
 refine wpAny_bind ((looks_nsIn h.st.ground hg).here (wpAny_bind ((looks_nsIn h.st.ground hb).here (wpAny_pure ?_))))
 refine PySem.callWith_type (hl.plain _ _) (wpAny_mono (hl.args _ pos r d A fs env f ι H s _ e h t) (fun a s1 P=>?_) fun U U z=>z)
 obtain⟨hkw,P⟩:=P
 rw[hkw]
 exact hQ _ _ P
theorem AB (yes:tn)(hn:sc.names.lookup n=some .globalImplicit)(hg:nsIn W.K mainGlobals n=some none)(hb:nsIn W.K builtinsNs n=some (some (.type "enumerate")))(hd:(n == ("__debug__" : Str))=false)
  (hl:SA W sc (bz x eE) [ex])(he:∀ env,eval (.Call (.Name n p) [ex] [] pos) env=(do callWith pos (← eval (.Name n p) env) [] (backTo pos (starEach [ex] env)) (backToKw pos (keywordEach [] env)))) :
  SI W sc tn (CD x) (.Call (.Name n p) [ex] [] pos):=fun r d A fs env f ι H s k e E h t=>by
 refine gV hn hg hb hd hl he (k:=fun vs h=>l1 (fun v=>ll h v fun s=>k (.enm s) h) vs) h t fun vs s1 P=>?_
 refine bC fun G=>?_;obtain⟨ι1,H1,ys,S1,E1,rvs,t⟩:=P
 replace t:=jx (g:=fun v=>ll H1 v fun s=>k (.enm s) H1) t;revert t;refine eE1 fun y=>aA2 fun z6q1 t=>?_;obtain rfl:=z6q1
 refine eE1 (fun v=>aA2 fun z7q1 rv=>?_) (rvs.one);obtain rfl:=z7q1;apply G;next =>
  refine eE4 (fun q b a items=>aA4 fun z8q4 src sq t=>?_) (jG S1 rv t);obtain rfl:=z8q4
  refine lW src fun h' ge si hsz K=>?_
  have n1:s1.heap.get? s1.heap.objs.size=none:=aw (Nat.le_refl _)
  have n2:s1.heap.get? (s1.heap.objs.size+1)=none:=aw (Nat.le_succ _)
  have E2:Ext W noX ι1 s1.heap ι1 h':=.of_keeps K
  refine wpAny_pyIter_enum ge ?_
  obtain⟨o,g,c⟩:∃ o,s1.heap.get? a=some o∧o.cls = .type (cP b):=by
   cases b<;>(revert src;refine eE1 fun o=>aA3 fun g c U=>?_;exact⟨o,g,c⟩)
  exact⟨ι1,H1,.enm q,_,rfl,S1.keeps K,E1.trans E2,.enm (S1.ew E1 n2 ⟨_,ge⟩) (S1.ew E1 n1 si.at) ge (si.gu (K _ _ g) c) (sq.ext E2),(fun U=>yes),t⟩
theorem En (yes:tn)(hn:sc.names.lookup n=some .globalImplicit)(hg:nsIn W.K mainGlobals n=some none)(hb:nsIn W.K builtinsNs n=some (some (.type "zip")))(hd:(n == ("__debug__" : Str))=false)
  (hl:SA W sc (bz x (bz y eE)) [e1,e2])(he:∀ env,eval (.Call (.Name n p) [e1,e2] [] pos) env=(do callWith pos (← eval (.Name n p) env) [] (backTo pos (starEach [e1,e2] env)) (backToKw pos (keywordEach [] env)))) :
  SI W sc tn (HG x y) (.Call (.Name n p) [e1,e2] [] pos):=fun r d A fs env f ι H s k e E h t=>by
 refine gV hn hg hb hd hl he (k:=fun vs h=>l2 (fun v w=>ll h v fun s=>ll h w fun t=>bM h .eW fun g h=>k (.zip g s t) h) vs) h t fun vs s1 P=>?_
 obtain⟨ι1,H1,ys,S1,E1,rvs,t⟩:=P
 replace t:=jy (g:=fun v w=>ll H1 v fun s=>ll H1 w fun t=>bM H1 .eW fun g h=>k (.zip g s t) h) t;revert t;refine eE2 fun y1 y2=>aA2 fun z11q2 t=>?_;obtain rfl:=z11q2
 refine eE2 (fun v1 v2=>aA3 fun z12q2 rv1 rv2=>?_) (rvs.two);obtain rfl:=z12q2;next =>
  refine eE4 (fun q1 b1 a1 items1=>aA4 fun z13q4 src1 sq1 t=>?_) (jG S1 rv1 t);obtain rfl:=z13q4
  refine eE4 (fun q2 b2 a2 items2=>aA4 fun z14q4 src2 sq2 t=>?_) (jG S1 rv2 t);obtain rfl:=z14q4
  rw[aT] at t
  refine gS src1 src2 fun h' gz gTI gTO si1 si2 hsz K=>?_
  have nn:∀ j,s1.heap.get? (s1.heap.objs.size+j)=none:=fun j=>aw (Nat.le_add_right _ _)
  obtain⟨S2,E2⟩:=S1.new (p:=(s1.heap.objs.size+3,s1.heap.objs.size+3)) (o:=.eW) (tk:=s1.toks) (dr:=s1.drawn) K (nn 3) (nn 3) fun U=>⟨rfl,_,_,gTO⟩
  refine wpAny_pyIter_zip gz ?_
  have cls:∀ {b a items},dG b s1.heap a items→∃ o,s1.heap.get? a=some o∧o.cls = .type (cP b):=fun {b a items} src=>by
   cases b<;>(revert src;refine eE1 fun o=>aA3 fun g c U=>?_;exact⟨o,g,c⟩)
  refine eE1 (fun o1=>aA2 fun g1 c1=>?_) (cls src1)
  refine eE1 (fun o2=>aA2 fun g2 c2=>?_) (cls src2)
  have pv:∀ {a},s1.heap.get? a=none→a≠s1.heap.objs.size+3→(∃ o,h'.get? a=some o)→bA W fs s.heap (aH ι1 H1.n (s1.heap.objs.size+3,s1.heap.objs.size+3)) h' a:=fun {a} n ne g=>by
   have p:=S1.ew (h':=h') E1 n g
   refine⟨p.new,p.base,fun z=>?_,p.frame,p.there⟩
   revert z;refine oO (fun z=>?_) (eE2 fun k q=>aA2 fun ek z=>?_)
   ·exact p.own (.inl z)
   ·unfold aH at ek
    split at ek
    ·replace ek:=ab ek;subst ek;rcases z with z | z<;>exact ne z
    ·exact p.own (.inr ⟨k,q,ek,z⟩)
  have d4:(s1.heap.objs.size+4:Nat)≠s1.heap.objs.size+3:=by omega
  have d2:(s1.heap.objs.size+2:Nat)≠s1.heap.objs.size+3:=by omega
  have d1:(s1.heap.objs.size+1:Nat)≠s1.heap.objs.size+3:=by omega
  have d0:(s1.heap.objs.size+0:Nat)≠s1.heap.objs.size+3:=by omega
  have d01:(s1.heap.objs.size:Nat)≠s1.heap.objs.size+1:=by omega
  exact⟨_,_,.zip H1.n q1 q2,_,rfl,S2,E1.trans E2,.zip (pv (nn 4) d4 ⟨_,gz⟩) (pv (nn 2) d2 ⟨_,gTI⟩) (pv (nn 0) d0 si1.at) (pv (nn 1) d1 si2.at) d01 gz gTI (ao _ _ _) (E1.none (nn 3))
   (si1.gu (K _ _ g1) c1) (si2.gu (K _ _ g2) c2) (sq1.ext E2) (sq2.ext E2),(fun U=>yes),t⟩
theorem qw {n:Nat}(le:n≤1000):Builtin.Range.small 0 (n:Int) 1=true∧Builtin.Range.rangeSize 0 (n:Int) 1=n:=by
 refine⟨small_one (by omega) (by omega) (by omega) (by omega),?_⟩
 rw[rangeSize_one]
 split<;>omega
theorem wG {x:CX}{n:Str}{pos p:Pos}{e1:Expr}{tn:Prop}(hn:sc.names.lookup n=some .globalImplicit)(hg:nsIn W.K mainGlobals n=some none)(hb:nsIn W.K builtinsNs n=some (some (.type "range")))(hd:(n == ("__debug__" : Str))=false)
  (hl:SA W sc (bz x eE) [e1])(he:∀ env,eval (.Call (.Name n p) [e1] [] pos) env=(do callWith pos (← eval (.Name n p) env) [] (backTo pos (starEach [e1] env)) (backToKw pos (keywordEach [] env)))) :
  SI W sc tn (EZ x) (.Call (.Name n p) [e1] [] pos):=fun r d A fs env f ι H s k e E h t=>by
 refine gV hn hg hb hd hl he (k:=fun vs h=>l1 (fun v=>nat? v fun n=>@Bool.rec (fun U=>Bool) false (k (.rng n) h) (Nat.ble n 1000)) vs) h t fun vs s1 P=>?_
 obtain⟨ι1,H1,ys,S1,E1,rvs,t⟩:=P
 replace t:=jx (g:=fun v=>nat? v fun n=>@Bool.rec (fun U=>Bool) false (k (.rng n) H1) (Nat.ble n 1000)) t;revert t;refine eE1 fun y=>aA2 fun z20q1 t=>?_;obtain rfl:=z20q1
 refine eE1 (fun v=>aA2 fun z21q1 rv=>?_) (rvs.one);obtain rfl:=z21q1;next =>
  refine eE1 (fun m=>aA2 fun z22q1 t'=>?_) (bG (k:=fun n=>@Bool.rec (fun U=>Bool) false (k (.rng n) H1) (Nat.ble n 1000)) t);obtain rfl:=z22q1
  obtain⟨tk,rfl⟩:=rv.inv;next =>
   cases q:Nat.ble m 1000 with
   | false=>rw[q] at t';exact ft t'
   | true =>
    rw[q] at t'
    obtain⟨f1,f2⟩:=qw (bS q)
    refine call_range_1 ?_
    refine wpAny_pyIter_range (IsRange.new s1.heap 0 m 1 _ _ _) f1 ?_
    rw[f2]
    have K:=fun b o (g:s1.heap.get? b=some o)=>aj _ { cls:=.type "range_iterator",data:=.fields #[rawInt 0,rawInt (m:Int),rawInt 1] } b o (aj s1.heap { cls:=.type "range",data:=.fields #[.int 0 s1.toks,.int (m:Int) tk,.int 1 (s1.toks+1)] } b o g)
    have E2:Ext W noX ι1 s1.heap ι1 _:=.of_keeps K
    have sz:=Heap.size_push s1.heap (o:={ cls:=.type "range",data:=.fields #[.int 0 s1.toks,.int (m:Int) tk,.int 1 (s1.toks+1)] })
    have n1:s1.heap.get? (s1.heap.push { cls:=.type "range",data:=.fields #[.int 0 s1.toks,.int (m:Int) tk,.int 1 (s1.toks+1)] }).objs.size=none:=aw (by rw[sz];exact Nat.le_succ _)
    have g:=Heap.get?_push_size (s1.heap.push { cls:=.type "range",data:=.fields #[.int 0 s1.toks,.int (m:Int) tk,.int 1 (s1.toks+1)] }) (o:={ cls:=.type "range_iterator",data:=.fields #[rawInt 0,rawInt (m:Int),rawInt 1] }) rfl
    refine⟨ι1,H1,.rng m,_,rfl,S1.keeps K,E1.trans E2,.rng (S1.ew E1 n1 ⟨_,g⟩) (Nat.zero_le _) ?_,(fun z=>z.elim),t'⟩
    refine Eq.trans g ?_
    simp
end
noncomputable def takes (cells:List (Str × Addr)):List (Str × NameKind)→List (Str × Addr)→List (Str × Addr)
 | [],cs=>cs
 | (n,k) :: r,cs=>takes cells r (if k == .free then(n,(cells.lookup n).getD 0) :: cs else cs)
theorem dU (h:∀ n,(n,NameKind.free)∈scope.names→∃ a,env.cells.lookup n=some a):closureFor scope env=pure (takes env.cells scope.names []):=by
 unfold closureFor
 have go:∀ (l:List (Str × NameKind))(cs:List (Str × Addr)),(∀ n,(n,NameKind.free)∈l→∃ a,env.cells.lookup n=some a) →
   (forIn l cs fun(x:Str × NameKind)(cs:List (Str × Addr))=>(if x.2 == NameKind.free then do
    let a ← cellOf env x.1
    pure (ForInStep.yield ((x.1,a) :: cs)) else pure (ForInStep.yield cs):Sem (ForInStep (List (Str × Addr)))))=pure (takes env.cells l cs):=by
  intro l
  induction l with
  | nil=>intro cs _;rfl
  | cons x r ih =>
   intro cs hl
   obtain⟨n,k⟩:=x
   rw[List.forIn_cons]
   simp only[takes]
   by_cases e:(k == NameKind.free)=true
   ·have ek:k = .free:=by simpa using e
    subst ek
    obtain⟨a,ha⟩:=hl n (.head _)
    have hc:cellOf env n=pure a:=by delta cellOf;rw[ha]
    simp only[hc,ha,pure_bind,if_true,beq_self_eq_true,Option.getD_some]
    exact ih _ fun m hm=>hl m (.tail _ hm)
   ·simp only[e,pure_bind,if_false,Bool.false_eq_true]
    exact ih _ fun m hm=>hl m (.tail _ hm)
 have:=go scope.names [] h
 simpa using this
section
variable {W:Wd}{sc:Sc}{fs:List Env}{ι ι0:Io}{H:Hp}{s:Shared}{h0 h:Heap}{X:Addr→Prop}
theorem bF (o:Own W (aH ι n p) b):Own W ι b∨b=p.1∨b=p.2:=by
 rcases o with rfl | ⟨k',q,e,q'⟩
 ·exact .inl (.inl rfl)
 ·unfold aH at e
  split at e
  ·replace e:=ab e;subst e;exact .inr q'
  ·exact .inl (.inr ⟨k',q,e,q'⟩)
theorem Ext.adopt (E:Ext W X ι0 h0 ι h)(un:ι n=Option.none)(n0:h0.get? a=Option.none):Ext W X ι0 h0 (aH ι n (a,a)) h where
 sub:=E.sub.trans (aN un)
 tk:=fun b o g c d no=>by
  have:=E.tk b o g c d no
  refine⟨this.1,fun z=>?_⟩
  rcases bF z with z | z | z
  ·exact this.2 z
  ·rw[show b=a from z,n0] at g;exact zns g
  ·rw[show b=a from z,n0] at g;exact zns g
 keep:=E.keep
 dom:=E.dom
 new:=fun b z=>by
  rcases bF z with z | z | z
  ·exact E.new b z
  ·exact .inr ((show b=a from z)▸n0)
  ·exact .inr ((show b=a from z)▸n0)
set_option tactic.hygienic true in
theorem St.adopt (S:St W fs ι H s)(nb:W.base.get? a=none)(no:¬ Own W ι a)(nf:a∉frs fs)(gx:s.heap.get? a=some x)(cx:¬ TC x)
  (r:TK W ι s.heap (aH ι H.n (a,a)) s.heap→RO W (aH ι H.n (a,a)) s.heap (a,a) o):St W fs (aH ι H.n (a,a)) (H.add o) s:=by
 have sub:=aN (p:=(a,a)) S.unused
 have gget:∀ j,(H.add o).t.get j=if j=H.n then some o else H.t.get j:=fun j=>Tri.get_set o H.t H.n j
 have tk:TK W ι s.heap (aH ι H.n (a,a)) s.heap:=fun b ob g c U nw=>⟨g,fun z=>by
  rcases bF z with z | z | z
  ·exact nw z
  ·rw[show b=a from z,gx] at g;replace g:=ab g;subst g;exact cx c
  ·rw[show b=a from z,gx] at g;replace g:=ab g;subst g;exact cx c⟩
 have off:∀ {i q},ι i=some q→q.1≠a∧q.2≠a:=fun {i q} e=>⟨fun z=>no (.inr ⟨i,q,e,.inl z.symm⟩),fun z=>no (.inr ⟨i,q,e,.inr z.symm⟩)⟩
 refine⟨S.bo,S.bp,S.mods,S.ground,S.old,S.lim,S.frames,S.frd,fun i ob e=>?_,fun i q e=>?_,fun i j q q' e e' ne=>?_,fun b ob=>?_,fun i q e=>?_,S.src,S.gens,S.os,fun P m=>(by
  refine eE1 (fun ps=>aA4 fun b g t c=>?_) (S.tabs P m)
  exact⟨ps,b,g,t,fun pos cv e=>(c pos cv e).mono tk⟩)⟩
 ·rw[gget] at e
  by_cases z:i=H.n
  ·rw[if_pos z] at e;replace e:=ab e;subst e;subst z
   exact⟨_,ao ι H.n _,r tk⟩
  ·rw[if_neg z] at e
   refine eE1 (fun q=>aA2 fun b r'=>?_) (S.live i ob e)
   exact⟨q,sub _ _ b,r'.mono sub tk (fun U g=>g) (fun U g=>g)⟩
 ·have hn:(H.add o).n=H.n+1:=rfl
  unfold aH at e
  split at e
  ·rename_i z;subst z
   exact⟨by rw[hn];simp +arith only,o,by rw[gget,if_pos rfl]⟩
  ·rename_i z
   refine aA2 (fun a1=>eE1 fun b g=>?_) (S.dom i q e)
   exact⟨by rw[hn];exact fS a1 (by simp +arith only),b,by rw[gget,if_neg z];exact g⟩
 ·unfold aH at e e'
  split at e
  ·rename_i z;replace e:=ab e;subst e
   rw[if_neg (fun z'=>ne (z.trans z'.symm))] at e'
   have:=off e'
   exact⟨this.1.symm,this.2.symm,this.1.symm,this.2.symm⟩
  ·split at e'
   ·replace e':=ab e';subst e'
    have:=off e
    exact⟨this.1,this.1,this.2,this.2⟩
   ·exact S.apart i j q q' e e' ne
 ·rcases bF ob with z | z | z
  ·exact S.fresh b z
  ·rw[show b=a from z];exact⟨nb,nf⟩
  ·rw[show b=a from z];exact⟨nb,nf⟩
 ·unfold aH at e
  split at e
  ·replace e:=ab e;subst e;exact⟨fun z=>no (.inl z),fun z=>no (.inl z)⟩
  ·exact S.aF i q e
theorem Bh {q:It}{n:Nat}{a:Addr}{A:Around}{E:Value→Shared→Prop}{Q:Value→Shared→Prop}(x:cn W fs h0 ι s.heap q n a)(hQ:Q (.ref a) s):wpAny (model W.prog W.w) A (pyIter (.ref a)) Q E s:=by
 cases q with
 | one q =>
  obtain @⟨b,_,_,y,_⟩:=x
  cases b
  ·exact wpAny_pyIter_tupleiter y hQ
  ·exact wpAny_pyIter_listiter y hQ
 | enm _=>obtain⟨_,_,g,_,_⟩:=x;exact wpAny_pyIter_enum g hQ
 | zip _ _ _=>obtain⟨_,_,_,_,_,g,_⟩:=x;exact wpAny_pyIter_zip g hQ
 | rng _=>obtain⟨_,_,g⟩:=x;exact wpAny_pyIter_rangeiter g hQ
end
section
variable {prog:Program}{w:World}{A:Around}{R:Result→Shared→Prop}{s:Shared}
theorem fo (I:Nat→Shared→Prop)
  (turn:∀ n s,I n s→wpAny (model prog w) A (pyNext it) (fun r s₁=>match r with
   | none=>R (.ok .next) s₁
   | some v=>wpAny (model prog w) A (letOwnedTupleGo target it v) (fun U s₁'=>wpAny (model prog w) A (assign target env v) (fun U s₂ =>
     wpAny (model prog w) A (forIn ifs true fun c r=>if r=true then do let ok ← isTrue c env (eval c env);pure (ForInStep.yield ok) else pure (ForInStep.yield r)) (fun ok s₃ =>
      if ok=true then wpAny (model prog w) A (eval elt env) (fun x s₄ =>
       wpAny (model prog w) A (call (.builtin "list.append") [acc,x]) (fun U s₅=>∃ m,m < n∧I m s₅) (notedBy (model prog w) A env fun e s'=>R (.error e) s') s₄) (notedBy (model prog w) A env fun e s'=>R (.error e) s') s₃
      else ∃ m,m < n∧I m s₃) (notedBy (model prog w) A env fun e s'=>R (.error e) s') s₂) (notedBy (model prog w) A env fun e s'=>R (.error e) s') s₁') (notedBy (model prog w) A env fun e s'=>R (.error e) s') s₁) (notedBy (model prog w) A env fun e s'=>R (.error e) s') s)
  (n:Nat)(h:I n s) :
  codeAny (model prog w) A (.compLoop (.ListComp elt [⟨target,iter,ifs,0⟩] scope pos) 0 it acc env) R s:=by
 refine codeAny_loop rfl I (fun n s hI=>?_) n h
 show wpAny _ A ((compTurn (.ListComp elt [⟨target,iter,ifs,0⟩] scope pos) 0 it acc env).onRaise (fun x=>do noteFrame x env;theTreesLotGoes x)) _ _ s
 refine wpAny_noted ?_
 rw[compTurn_list]
 refine wpAny_bind (wpAny_standAt (wpAny_bind (wpAny_mono (turn n s hI) (fun r s₁ h₁=>?_) fun U U h'=>h')))
 cases r with
 | none=>exact wpAny_pure h₁
 | some v =>
  refine wpAny_bind (wpAny_mono h₁ (fun U s₁' h₁=>?_) fun U U h'=>h')
  refine wpAny_bind (wpAny_mono h₁ (fun U s₂ h₂=>wpAny_bind (wpAny_mono h₂ (fun ok s₃ h₃=>?_) fun U U h'=>h')) fun U U h'=>h')
  cases ok with
  | false=>exact wpAny_pure ⟨rfl,h₃⟩
  | true =>
   exact wpAny_bind (wpAny_bind (wpAny_mono h₃ (fun x s₄ h₄=>wpAny_bind (wpAny_mono h₄ (fun U s₅ h₅=>wpAny_pure (wpAny_pure ⟨rfl,h₅⟩)) fun U U h'=>h')) fun U U h'=>h'))
end
theorem hM {cells:List (Str × Addr)}{n:Str}{a:Addr}(ha:cells.lookup n=some a){l:List (Str × NameKind)}:∀ {cs:List (Str × Addr)},((n,NameKind.free)∈l∨cs.lookup n=some a)→(takes cells l cs).lookup n=some a:=by
 induction l with
 | nil =>
  intro cs z
  rcases z with z | z
  ·cases z
  ·exact z
 | cons mk r ih =>
  obtain⟨m,k⟩:=mk
  intro cs z
  unfold takes
  refine ih ?_
  by_cases q:(k == NameKind.free)=true
  ·rw[if_pos q]
   by_cases e:n=m
   ·subst e
    right
    rw[ha];simp[List.lookup]
   ·rcases z with z | z
    ·rcases List.mem_cons.mp z with z | z
     ·injection z with z _;exact absurd z e
     ·exact .inl z
    ·right
     have:(n == m)=false:=by simpa using e
     simp only[List.lookup_cons,this]
     exact z
  ·rw[if_neg q]
   rcases z with z | z
   ·rcases List.mem_cons.mp z with z | z
    ·injection z with _ z2
     subst z2
     exact absurd rfl q
    ·exact .inl z
   ·exact .inr z
structure fm (sc sc':Sc)(scope:Scope):Prop where
 kind:scope.kind = .function
 zi:∀ x∈scope.names,x.2≠.cell
 locs:∀ x∈scope.names,x.2 = .local→scope.names.lookup x.1=some .local
 free:∀ n,(n,NameKind.free)∈scope.names→∃ i:Nat,sc.cells[i]? = some n∧(sc.names.lookup n=some .cell∨sc.names.lookup n=some .free)
 names:sc'.names=renamed sc.names scope.names
 cells:sc'.cells=sc.cells
 code:sc'.code=none
theorem lookup_mem [BEq α] [LawfulBEq α]:∀ {l:List (α × β)},l.lookup a=some b→(a,b)∈l
 | [],h=>by exact zns h
 | (x,y) :: r,h=>by
  by_cases e:(a == x)=true
  ·simp only[List.lookup_cons,e,Option.some.injEq] at h
   rw[beq_iff_eq] at e
   subst e h;exact .head _
  ·have e:(a == x)=false:=by simpa using e
   simp only[List.lookup_cons,e] at h
   exact .tail _ (lookup_mem h)
set_option tactic.hygienic true in
theorem fm.isFree (c:fm sc sc' scope)(h:sc'.names.lookup n=some .cell∨sc'.names.lookup n=some .free):(n,NameKind.free)∈scope.names:=by
 have:∃ k,(n,k)∈sc'.names∧(k = .cell∨k = .free):=by
  rcases h with h | h
  ·exact⟨_,lookup_mem h,.inl rfl⟩
  ·exact⟨_,lookup_mem h,.inr rfl⟩
 revert this;refine eE1 fun k=>aA2 fun m hk=>?_
 rw[c.names] at m
 refine eE1 (fun z2q0=>aA2 fun m' e=>?_) (List.mem_map.mp m);obtain⟨n',k'⟩:=z2q0
 simp only at e
 split at e
 ·rename_i q
  injection e with e1 e2
  subst e1
  have:k' = .free:=by
   have:=(Bool.and_eq_true _ _▸q).1
   simpa using this
  subst this;exact m'
 ·injection e with e1 e2
  subst e1 e2
  rcases hk with rfl | rfl
  ·exact absurd rfl (c.zi _ m')
  ·exact m'
def i4 (W:Wd)(sc:Sc)(c:CX)(ifs:List Expr):Prop:=∀ (r:Rt)(d:Nat)(A:Around)(fs:List Env)(env:Env)(f:Fm)(ι:Io)(H:Hp)(s:Shared)(p q:Hp→Bool)(e:KE),
 Here W sc r d A fs env f ι H s→c r f H (fun v h=>ifV v (p h) (q h)) e=true →
 wpAny (model W.prog W.w) A (forIn ifs true fun c r=>if r=true then do let ok ← isTrue c env (eval c env);pure (ForInStep.yield ok) else pure (ForInStep.yield r)) (PB W fs ι s p q) (PE W fs noX ι s e) s
section
variable {W:Wd}{fs:List Env}{ι ι':Io}{h h' h0:Heap}{X:Addr→Prop}
end
section
variable {W:Wd}{sc sc':Sc}
theorem rP:i4 W sc C2 []:=fun r d A fs env f ι H s p q e h t=>wpAny_tests_nil ⟨ι,H,h.st,.refl,t⟩
theorem rN (hc:ST W sc c ex):i4 W sc c [ex]:=fun r d A fs env f ι H s p q e h t=>wpAny_tests_one (hc r d A fs env f ι H s p q e h t)
theorem AY (z:PE W fs noX ι s (fun U U=>false) v s'):False:=by
 obtain⟨_,_,_,_,_,_,_,_,_,z⟩:=z;exact ft z
theorem HW (z:PXE W sc fs env ι s (fun U U U=>false) v s'):False:=by
 obtain⟨_,_,_,_,_,_,_,_,_,_,_,z⟩:=z;exact ft z
theorem fm.fr (co:fm sc sc' scope){env:Env}{f:Fm}{ι ι2:Io}{h h1:Heap}{C:Addr}{ns:Nat}{m:Str→Option Value}(F:aS W sc env ι h f)(su:Sub ι ι2)(no:¬ Own W ι2 C)(nb:W.base.get? C=none)(hn:h1.Ns C m) :
  aS W sc' (compEnvC scope (takes env.cells scope.names []) C env) ι2 h1 (.mk (aM ns) f.c):=by
 refine⟨no,nb,⟨m,hn,fun i n x U e=>.inl ?_⟩,fun i n e1 e2=>?_⟩
 ·have e:(aM ns)[i]? = some x:=e
  have:∀ (k i:Nat),(aM k)[i]? = some x→x = .unset:=by
   intro k
   induction k with
   | zero=>intro i e;exact zns e
   | succ k ih=>intro i e;cases i with
    | zero=>injection e with e;exact e.symm
    | succ i=>exact ih i e
  exact this _ _ e
 ·have fr:=co.isFree e2
  refine bC fun G=>?_;refine eE1 (fun U=>aA2 fun U hk=>?_) (co.free n fr)
  rw[co.cells] at e1
  refine eE3 (fun j a d=>aA3 fun g1 g2 g3=>?_) (F.cells i n e1 hk)
  apply G;exact⟨j,a,d,g1,su _ _ g2,hM g3 (.inl fr)⟩
def mh (r:Rt)(t:CT)(c x:CX)(it:It)(k:KL)(m n:Nat)(f:Fm)(acc:List Vl)(h:Hp):Bool:=Cs r t c x (fun U U=>false) it k m n f acc h
structure Dv (W:Wd)(fs:List Env)(ι:Io)(h0:Heap)(ι':Io)(H':Hp)(s3:Shared)(C D:Addr)(vs:Array Value)(ln:Nat)(l:List Vl):Prop where
 st:St W fs ι' H' s3
 ext:Ext W (· = C) ι h0 ι' s3.heap
 nsC:∃ m,s3.heap.Ns C m
 pC:bA W fs h0 ι' s3.heap C
 gD:IsL s3.heap D vs ln
 pD:bA W fs h0 ι' s3.heap D
 rvs:RVs W ι' s3.heap vs.toList l
 ne:D≠C
theorem Cm (S:St W fs ι H s)(p:bA W fs h0 ι s.heap C)(n:s.heap.Ns C m)(sb:Heap.SameBut C s.heap h'):St W fs ι H ⟨h',s.gens,dr,tk,s.os⟩∧TK W ι s.heap ι h' :=
 S.xm (P:=(· = C)) (fun b o nz e=>sb.extBut b o nz e) (fun b z=>by subst z;exact⟨p.base,p.frame,p.src⟩)
  (fun b o z g c' d'=>by
   refine bC fun G=>?_;subst z
   revert n;refine eE3 fun o2 es ep=>aA3 fun g2 d2 U=>?_
   rw[g] at g2;replace g2:=ab g2;subst g2
   exact(d'.dE d2).elim)
  (fun U i q o ei go z=>by
   rcases z with z | z
   ·exact absurd (.inr ⟨i,q,ei,.inl z.symm⟩) p.own
   ·exact absurd (.inr ⟨i,q,ei,.inr z.symm⟩) p.own)
theorem Dv.free (z:Dv W fs ι h0 ι' H' s3 C D vs ln l)(sb:Heap.SameBut C s3.heap h') :
  St W fs ι' H' ⟨h',s3.gens,dr,tk,s3.os⟩∧Ext W noX ι h0 ι' h'∧IsL h' D vs ln∧bA W fs h0 ι' h' D∧RVs W ι' h' vs.toList l:=by
 refine bC fun G=>?_;obtain⟨m,hm⟩:=z.nsC
 obtain⟨S5,tk5⟩:=Cm z.st z.pC hm sb (tk:=tk) (dr:=dr)
 have g:IsL h' D vs ln:=sb.extBut _ _ z.ne z.gD
 apply G;exact⟨S5,(z.ext.fin (P:=(· = C)) (fun b o nz e=>sb.extBut b o nz e) (fun b q=>by subst q;exact z.pC.new) tk5).drop fun b q=>.inr (by rw[show b=C from q];exact z.pC.new),g,⟨z.pD.new,z.pD.base,z.pD.own,z.pD.frame,_,g⟩,z.rvs.mono (Sub.refl _) tk5⟩
theorem yZ (S:St W fs ι H s)(E:Ext W X ι0 h0 ι s.heap)(g:IsL s.heap D vs ln)(p:bA W fs h0 ι s.heap D)(r:RVs W ι s.heap vs.toList l)(t:mkL l H k=true) :
  St W fs (aH ι H.n (D,D)) (H.add (.list l)) s∧Ext W X ι0 h0 (aH ι H.n (D,D)) s.heap∧k (.ref H.n) (H.add (.list l))=true:=by
 obtain⟨ln',t⟩:=aA t
 rw[aT] at t
 exact⟨S.adopt p.base p.own p.frame g (TC.ne rfl (by decide) (by decide)) (fun tk=>⟨rfl,ln',vs,ln,g,r.mono (aN S.unused) tk⟩),E.adopt S.unused p.new,t⟩
structure CB (W:Wd)(fs:List Env)(sc':Sc)(cenv:Env)(h0:Heap)(q:It)(a D:Addr)(n:Nat)(ι':Io)(h':Heap)(f':Fm)(acc:List Vl)(vs:Array Value)(ln:Nat):Prop where
 F:aS W sc' cenv ι' h' f'
 J:cn W fs h0 ι' h' q n a
 g:IsL h' D vs ln
 p:bA W fs h0 ι' h' D
 r:RVs W ι' h' vs.toList acc.reverse
section
variable {W:Wd}{fs:List Env}{sc':Sc}{cenv:Env}{h0:Heap}{q:It}{a D:Addr}{n:Nat}{ι' ι2:Io}{h' h2:Heap}{f' f2:Fm}{acc:List Vl}{vs:Array Value}{ln:Nat}
theorem aS.GA (F:aS W sc' cenv ι' h' f')(g:IsL h' D vs ln):¬ atL cenv D:=fun z=>by
 refine eE1 (fun m2=>aA2 fun z23q1 U=>?_) F.ns;revert z23q1;refine eE3 fun o2 es ep=>aA3 fun g2 d2 U=>?_
 rw[← show D=cenv.locals from z,g] at g2;replace g2:=ab g2;subst g2;injection d2
theorem aS.Ik (F:aS W sc' cenv ι' h' f'):∀ b o,atL cenv b→h'.get? b=some o→∃ es n,o.data = .dict es n:=fun b o z g=>by
 refine eE1 (fun m=>aA2 fun z24q1 U=>?_) F.ns;revert z24q1;refine eE3 fun o2 es ep=>aA3 fun g2 dd U=>?_
 rw[show b=cenv.locals from z,g2] at g;replace g:=ab g;subst g
 exact⟨es,ep,dd⟩
theorem CB.ext (B:CB W fs sc' cenv h0 q a D n ι' h' f' acc vs ln)(E:Ext W noX ι' h' ι2 h2):CB W fs sc' cenv h0 q a D n ι2 h2 f' acc vs ln :=
 ⟨aS.ext (s:={ heap:=h' }) (s':={ heap:=h2 }) B.F E id,B.J.ext E (fun U U z=>z.elim),B.p.kept E id B.g (by intro _ _ z;injection z),B.p.ext E,B.r.ext E⟩
theorem CB.at (B:CB W fs sc' cenv h0 q a D n ι' h' f' acc vs ln)(E:Ext W (atL cenv) ι' h' ι2 h2)(F2:aS W sc' cenv ι2 h2 f2):CB W fs sc' cenv h0 q a D n ι2 h2 f2 acc vs ln :=
 ⟨F2,B.J.ext E B.F.Ik,B.p.kept E (B.F.GA B.g) B.g (by intro _ _ z;injection z),B.p.ext E,B.r.ext E⟩
theorem CB.stp (B:CB W fs sc' cenv h0 q a D n ι' h' f' acc vs ln)(st:Stp W ι' h' h2)(J2:cn W fs h0 ι' h2 q m a):CB W fs sc' cenv h0 q a D m ι' h2 f' acc vs ln :=
 have g2:IsL h2 D vs ln:=st.dic _ _ B.g (.inr rfl)
 ⟨B.F.stp st,J2,g2,⟨B.p.new,B.p.base,B.p.own,B.p.frame,_,g2⟩,B.r.mono (Sub.refl _) st.tk⟩
end
inductive GL (W:Wd)(fs:List Env)(sc':Sc)(cenv:Env)(ι:Io)(h0:Heap)(q:It)(a D:Addr)(go:Nat→Nat→Fm→List Vl→Hp→Bool)(m:Nat)(s':Shared):Prop where
 | mk (n:Nat)(ι':Io)(H':Hp)(f':Fm)(acc:List Vl)(vs:Array Value)(ln:Nat)(S:St W fs ι' H' s')(E:Ext W (atL cenv) ι h0 ι' s'.heap)(B:CB W fs sc' cenv h0 q a D n ι' s'.heap f' acc vs ln)(le:acc.length+m≤2000)(t:go m n f' acc H'=true):GL W fs sc' cenv ι h0 q a D go m s'
theorem ml {tn:Prop}{x:CX}{t:CT}{it:CI}{c:CX}{ns:Nat}{elt target iter:Expr}{ifs:List Expr}{scope:Scope}{pos cpos:Pos}(co:fm sc sc' scope)(hi:SI W sc tn it iter)(ht:STg W sc' t target)(hc:i4 W sc' c ifs)(hx:SX W sc' x elt)
  (tt:tn→isTup target)(hsI:∀ env x,foldedSetIterable iter env x=pure x){r:Rt}{d:Nat}{A:Around}{fs:List Env}{env:Env}{f:Fm}{ι:Io}{H:Hp}{s:Shared}{k:KV}{e:KE}(h:Here W sc r d A fs env f ι H s)(tr:qm x t it c ns r f H k e=true)
  {use:Option (Value→Sem Unit)}{Q:Value→Shared→Prop}{EE:Value→Shared→Prop}(he:∀ v s',PE W fs noX ι s e v s'→EE v s')
  (fin:∀ ι' H' s3 C D vs ln l,Dv W fs ι s.heap ι' H' s3 C D vs ln l→mkL l H' k=true→compPost (model W.prog W.w) A EE use Q (.ref D) C (.ok .next) s3) :
  wpAny (model W.prog W.w) A (comprehension (.ListComp elt [⟨target,iter,ifs,0⟩] scope pos) scope env cpos (newList []) false (eval iter env) use) Q EE s:=by
 have hclos:closureFor scope env=pure (takes env.cells scope.names []):=dU fun n m=>by
  refine eE1 (fun i=>aA2 fun e1 e2=>?_) (co.free n m)
  refine eE3 (fun U a U=>aA3 fun U U g=>?_) (h.fr.cells i n e1 e2)
  exact⟨a,g⟩
 have tr:it r f H (fun i h=>mh r t c x i (fun m h=>mkL m h k) 2000 0 (.mk (aM ns) f.c) [] h) e=true:=by
  cases f;exact tr
 refine wpAny_comprehension_free (use:=use) rfl (hsI env) hclos co.kind co.locs (wpAny_mono (hi r d A fs env f ι H s _ e _ h tr) (fun xv s1 P=>wpAny_mono P (fun v s2 P=>?_) fun U U z=>z) he)
 obtain⟨ι2,H2,q,a,rfl,S2,E2,I2,tq,t2⟩:=P
 refine wpAny_newObj_type (wpAny_newFunctionEnv co.zi (by intro y hy;simp at hy) (fun h₁ hns₁ hsb₁=>?_) co.kind)
 dsimp only at hns₁ hsb₁ ⊢
 generalize hH2:s2.heap.push { cls:=.type "list",dict:=none,data:=.seq ([]:List Value).toArray }=H3 at hns₁ hsb₁ ⊢
 have hC:H3.objs.size=s2.heap.objs.size+1:=by rw[← hH2,Heap.size_push]
 have hDC:s2.heap.objs.size≠H3.objs.size:=by rw[hC];exact Nat.ne_of_lt (Nat.lt_succ_self _)
 have old:∀ b o,s2.heap.get? b=some o→h₁.get? b=some o:=fun b o e=>hsb₁.extBut b o (by have:=Heap.lt_size e;rw[hC];exact Nat.ne_of_lt (Nat.lt_succ_of_lt this)) (Heap.get?_push_of_some _ (hH2▸Heap.get?_push_of_some _ e))
 have gD:IsL h₁ s2.heap.objs.size #[] 0:=hsb₁.extBut _ _ hDC (Heap.get?_push_of_some _ (hH2▸Heap.get?_push_size _ rfl))
 have nD:s2.heap.get? s2.heap.objs.size=none:=aw (Nat.le_refl _)
 have nC:s2.heap.get? H3.objs.size=none:=aw (by rw[hC];exact Nat.le_succ _)
 have S4:=S2.keeps old (tk:=s2.toks) (dr:=s2.drawn)
 have E4:Ext W noX ι2 s2.heap ι2 h₁:=.of_keeps old
 have pD:bA W fs s.heap ι2 h₁ s2.heap.objs.size:=S2.ew E2 nD ⟨_,gD⟩
 have pC:bA W fs s.heap ι2 h₁ H3.objs.size:=S2.ew E2 nC (by revert hns₁;refine eE3 fun o U U=>aA2 fun g U=>?_;exact⟨o,g⟩)
 have I4:=I2.ext E4 (fun U U z=>z.elim)
 generalize hcv:compEnvC scope (takes env.cells scope.names []) H3.objs.size env=cenv
 have hl:cenv.locals=H3.objs.size:=by rw[← hcv];rfl
 have F4:aS W sc' cenv ι2 h₁ (.mk (aM ns) f.c):=hcv▸co.fr (ns:=ns) h.fr (E2.trans E4).sub pC.own pC.base hns₁
 have eo:bR W sc' cenv fs:=by
  rw[← hcv]
  refine⟨?_,co.kind,h.eo.globals,h.eo.builtins,h.eo.frame,fun q e=>(by rw[co.code] at e;exact zns e)⟩
  rw[co.names]
  unfold compEnvC relabel renamed
  dsimp only
  refine List.map_congr_left fun y U=>?_
  obtain⟨n,k⟩:=y
  dsimp only
  rw[h.eo.kind,h.kindOf n]
  simp
 have X0:s.heap.get? H3.objs.size=none:=E2.none nC
 generalize hD:s2.heap.objs.size=D at *
 have loop:∀ s₃ : Shared,s₃ = { s2 with heap:=h₁,toks:=s2.toks+([]:List (Str × Value)).length } →
   codeAny (model W.prog W.w) A (.compLoop (.ListComp elt [⟨target,iter,ifs,0⟩] scope pos) 0 (.ref a) (.ref D) cenv)
    (compPost (model W.prog W.w) A EE use Q (.ref D) H3.objs.size) s₃:=by
  rintro s₃ rfl
  refine fo (I:=GL W fs sc' cenv ι s.heap q a D (fun m n f acc H=>mh r t c x q (fun m h=>mkL m h k) m n f acc H)) (fun m s1 J=>?_) 2000
   ⟨0,ι2,H2,_,[],#[],0,S4,(E2.trans E4).atl,⟨F4,I4,gD,pD,.nil⟩,Nat.le_refl _,t2⟩
  obtain⟨n,ι',H',f',acc,vs,ln,S',E',B',le,tt'⟩:=J
  cases m with
  | zero=>exact ft tt'
  | succ m =>
   have hh:Here W sc' r d A fs cenv f' ι' H' s1:=⟨h.rt,h.ar,eo,B'.F,S'⟩
   have tt':nY H' q n (fun v=>t r f' v H' (fun f h=>c r f h (fun b h=>ifV b (x r f h (fun w h=>mh r t c x q (fun m h=>mkL m h k) m (n+1) f (w :: acc) h) (fun U U=>false)) (mh r t c x q (fun m h=>mkL m h k) m (n+1) f acc h)) (fun U U=>false)) (fun i U h=>false)) (mkL (fU acc) H' k)=true:=tt'
   refine wpAny_mono (sZ h.ar.handled S' E' B'.J tt' (target:=target) (fun z=>tt (tq z)) (E':=notedBy (model W.prog W.w) A cenv fun e' s'=>compPost (model W.prog W.w) A EE use Q (.ref D) H3.objs.size (.error e') s')) (fun rr s3 P=>?_) fun U U z=>z
   cases rr with
   | none =>
    revert P;refine aA3 fun S3 z18q1 t3=>?_;obtain⟨E3,st⟩:=z18q1
    have F3:=B'.F.stp st
    refine eE1 (fun mm=>aA2 fun hmm U=>?_) (id F3.ns)
    have gD3:IsL s3.heap D vs ln:=st.dic _ _ B'.g (.inr rfl)
    have e3:Ext W (· = H3.objs.size) ι s.heap ι' s3.heap:=E3.weaken fun b z=>by rw[show b=cenv.locals from z,hl]
    exact fin ι' H' s3 H3.objs.size D vs ln acc.reverse ⟨S3,e3,⟨mm,hl▸hmm⟩,⟨X0,hl▸F3.nb,hl▸F3.no,pC.frame,by revert hmm;refine eE3 fun o U U=>aA2 fun g U=>?_;exact⟨o,hl▸g⟩⟩,gD3,⟨B'.p.new,B'.p.base,B'.p.own,B'.p.frame,_,gD3⟩,B'.r.mono (Sub.refl _) st.tk,(by rw[← hl];intro z;revert hmm;refine eE3 fun o2 es ep=>aA3 fun g2 d2 U=>?_;rw[← z,gD3] at g2;replace g2:=ab g2;subst g2;injection d2)⟩ (by rw[eK] at t3;exact t3)
   | some v =>
    refine wpAny_mono P (fun U s4 P=>?_) fun U U z=>z
    obtain⟨y,S5,⟨E5,st⟩,J5,rv,t4⟩:=P
    have B5:=B'.stp st J5
    refine wpAny_mono (ht r d A fs cenv f' ι' H' s4 v y _ (fun U U U=>false) (hh.with S5 B5.F) rv t4) (fun U s6 P=>?_) fun v s5 z=>(HW z).elim
    obtain⟨ι6,H6,f6,S6,E6,F6,t6⟩:=P
    have B6:=B5.at E6 F6
    refine wpAny_mono (hc r d A fs cenv f6 ι6 H6 s6 (fun h=>x r f6 h (fun w h=>mh r t c x q (fun m h=>mkL m h k) m (n+1) f6 (w :: acc) h) (fun U U=>false)) (fun h=>mh r t c x q (fun m h=>mkL m h k) m (n+1) f6 acc h) (fun U U=>false) ((hh.with S5 B5.F).with S6 F6) t6) (fun ok s7 P=>?_) fun v s5 z=>(AY z).elim
    obtain⟨ι7,H7,S7,E7,t7⟩:=P
    have B7:=B6.ext E7
    have E07:=E5.trans (E6.trans E7.atl)
    cases ok with
    | false =>
     exact⟨m,Nat.lt_succ_self m,⟨n+1,ι7,H7,f6,acc,vs,ln,S7,E07,B7,Nat.le_of_succ_le le,t7⟩⟩
    | true =>
     refine wpAny_mono (hx r d A fs cenv f6 ι7 H7 s7 _ (fun U U=>false) ⟨h.rt,h.ar,eo,B7.F,S7⟩ t7) (fun w s8 P=>?_) fun v s5 z=>(AY z).elim
     obtain⟨ι8,H8,y8,S8,E8,rv8,t8⟩:=P
     have B8:=B7.ext E8
     have E08:=E07.trans E8.atl
     have vl:=B8.r.length
     simp only[Array.length_toList,List.length_reverse] at vl
     refine append_at B8.g (fun h9 sb g9=>?_) (by unfold sizeLine;omega)
     have K:=S8.Bc (P:=(· = D)) (h':=h9) (tk:=s8.toks) (dr:=s8.drawn) (fun b z=>by subst z;exact⟨B8.p,_,B8.g,TC.ne rfl (by decide) (by decide)⟩) (fun b o nz e=>sb.extBut b o nz e)
     have E9:Ext W (atL cenv) ι s.heap ι8 h9:=E08.fin (P:=(· = D)) (fun b o nz e=>sb.extBut b o nz e) (fun b z=>by subst z;exact B8.p.new) K.2
     have EX:Ext W (· = D) ι8 s8.heap ι8 h9:=.many (fun b o nz e=>sb.extBut b o nz e) (fun b z=>by subst z;exact⟨_,g9⟩) K.2
     have nCD:¬ (cenv.locals=D):=fun z=>(B8.F.GA B8.g) (by rw[← z])
     refine⟨m,Nat.lt_succ_self m,⟨n+1,ι8,H8,f6,y8 :: acc,vs.push w,ln+1,K.1,E9,⟨B8.F.ext EX nCD,?_,g9,B8.p.ext EX,?_⟩,by rw[List.length_cons,Nat.add_right_comm];exact le,t8⟩⟩
     ·exact B8.J.ext' EX (fun b o z g=>by rw[show b=D from z,B8.g] at g;replace g:=ab g;subst g;rfl)
     ·simp only[Array.toList_push,List.reverse_cons]
      exact(B8.r.ext EX).append (.cons (rv8.ext EX) .nil)
 subst hcv
 exact codeAny_compStart_list (loop _ rfl) (Bh (s:={ s2 with heap:=h₁,toks:=s2.toks+([]:List (Str × Value)).length }) I4 (loop _ rfl))
theorem Bv {tn:Prop}{x:CX}{t:CT}{it:CI}{c:CX}{ns:Nat}{elt target iter:Expr}{ifs:List Expr}{scope:Scope}{pos:Pos}(co:fm sc sc' scope)(hi:SI W sc tn it iter)(ht:STg W sc' t target)(hc:i4 W sc' c ifs)(hx:SX W sc' x elt)
  (tt:tn→isTup target)(hsI:∀ env x,foldedSetIterable iter env x=pure x:=by intros;rfl):SX W sc (qm x t it c ns) (.ListComp elt [⟨target,iter,ifs,0⟩] scope pos):=fun r d A fs env f ι H s k e h tr=>by
 rw[eval_ListComp]
 refine ml co hi ht hc hx tt hsI h tr (fun U U z=>z) fun ι' H' s3 C D vs ln l z t3=>?_
 refine⟨_,z.nsC.choose_spec,fun h' sb=>?_⟩
 refine aA5 (fun S5 E5 g5 p5 r5=>?_) (z.free sb (tk:=s3.toks) (dr:=s3.drawn))
 refine aA3 (fun S6 E6 t6=>?_) (yZ S5 E5 g5 p5 r5 t3)
 exact⟨_,_,_,S6,E6,.ref (ao _ _ _),t6⟩
theorem rl {tn:Prop}{x:CX}{t:CT}{it:CI}{c:CX}{ns i:Nat}{elt target iter:Expr}{ifs:List Expr}{scope:Scope}{pos spos py:Pos}{y:Str}(nd:sc.slots.Nodup)(hs:sc.slots[i]? = some y)(hy:sc.names.lookup y=some .local)
  (hl:(py.line == pos.line&&!(scope.names.any fun(n,k)=>n == y&&(k == .local||k == .cell)))=true)(co:fm sc sc' scope)(hi:SI W sc tn it iter)(ht:STg W sc' t target)(hc:i4 W sc' c ifs)(hx:SX W sc' x elt)
  (tt:tn→isTup target)(hsI:∀ env x,foldedSetIterable iter env x=pure x:=by intros;rfl):SS W sc (qG (cV i) (qm x t it c ns)) (.Assign [.Name y py] (.ListComp elt [⟨target,iter,ifs,0⟩] scope pos) spos):=fun r d A fs env f ι H s kn kc kr ke h tr=>by
 have hsw:swapsWith (.ListComp elt [⟨target,iter,ifs,0⟩] scope pos) (some (.Name y py)) spos.line env=pure true:=by
  obtain⟨h1,h2⟩:=Bool.and_eq_true _ _▸hl
  have e1:env.blockKind = .function:=by unfold Env.blockKind;rw[h.eo.kind];rfl
  show(pure (env.blockKind == .function&&env.kindOf y == some .local&&py.line == pos.line&&!(scope.names.any fun(n,k)=>n == y&&(k == .local||k == .cell))):Sem Bool)=pure true
  rw[(h.kindOf y).trans hy,e1,h1,h2];rfl
 rw[exec_Assign_Name_used _ _ _ _ hsw]
 refine wpAny_bind (wpAny_standAt (wpAny_bind ?_))
 show wpAny _ A (do let _ ← comprehension (.ListComp elt [⟨target,iter,ifs,0⟩] scope pos) scope env _ (newList []) false (eval iter env) (some (assign (.Name y py) env))) _ _ s
 refine wpAny_bind (wpAny_mono (ml (use:=some (assign (.Name y py) env)) (Q:=fun U s'=>PS W sc fs env ι s kn kc kr .next s') (EE:=PXE W sc fs env ι s ke) co hi ht hc hx tt hsI h tr (fun U U z=>z.px h.fr) fun ι' H' s3 C D vs ln l z t3=>?_) (fun U s' hq=>wpAny_pure (wpAny_pure hq)) fun U U e=>e)
 refine aA3 (fun S6 E6 t6=>?_) (yZ z.st z.ext z.gD z.pD z.rvs t3)
 have lC:env.locals≠C:=fun q=>by
  refine eE1 (fun m=>aA2 fun z32q1 U=>?_) (h.fr.ns);revert z32q1;refine eE3 fun o es ep=>aA2 fun g U=>?_
  rw[q,z.pC.new] at g;exact zns g
 have F6:=h.fr.ext E6 lC
 have pC6:bA W fs s.heap (aH ι' H'.n (D,D)) s3.heap C:=by
  refine⟨z.pC.new,z.pC.base,fun q=>?_,z.pC.frame,z.pC.there⟩
  rcases bF q with q | q | q
  ·exact z.pC.own q
  ·exact z.ne (show C=D from q).symm
  ·exact z.ne (show C=D from q).symm
 show wpAny _ A (assign (.Name y py) env (.ref D)) _ _ s3
 refine wpAny_mono (wpAny_assign_Name (fM nd hs hy (d:=d) (r:=r) ⟨h.rt,h.ar,h.eo,F6,S6⟩ (.ref (ao _ _ _)) (k:=kn) (E:=PXE W sc fs env ι s ke) (dh t6))) (fun U s7 P=>?_) fun U U q=>q
 ·refine bC fun G=>?_;obtain⟨ι7,H7,f7,S7,E7,F7,t7⟩:=P
  refine eE4 (fun m o es ep=>aA4 fun g dd r1 r2=>?_) (z.nsC)
  refine eE1 (fun sl=>aA2 fun g7 U=>?_) (E7.keep _ _ g (.inr pC6.base) pC6.own (fun q=>lC (q.symm)))
  have nsC7:s7.heap.Ns C m:=⟨_,es,ep,g7,dd,r1,r2⟩
  have p7:=pC6.ext E7
  have E67:Ext W (fun b=>b=C∨b=env.locals) ι s.heap ι7 s7.heap:=(E6.weaken fun b q=>.inl q).trans (E7.weaken fun b q=>.inr q)
  apply G;refine⟨m,nsC7,fun h' sb=>?_⟩
  refine bC fun G=>?_;obtain⟨S8,tk8⟩:=Cm S7 p7 nsC7 sb (tk:=s7.toks) (dr:=s7.drawn)
  have E8:Ext W (atL env) ι s.heap ι7 h':=(E67.fin (P:=(· = C)) (fun b o nz e=>sb.extBut b o nz e) (fun b q=>by subst q;exact z.pC.new) tk8).drop fun b q=>by
   rcases q with q | q
   ·exact .inr (by rw[q];exact z.pC.new)
   ·exact .inl q
  apply G;refine⟨ι7,H7,f7,S8,E8,?_,t7⟩
  refine bC fun G=>?_;refine eE1 (fun m2=>aA2 fun z37q1 kk=>?_) (F7.ns);revert z37q1;refine eE3 fun o2 es2 ep2=>aA4 fun g2 d2 q1 q2=>?_
  apply G;exact⟨F7.no,F7.nb,⟨m2,⟨o2,es2,ep2,sb.extBut _ _ lC g2,d2,q1,q2⟩,fun i n x e1 e2=>(kk i n x e1 e2).imp id fun⟨v,a,b⟩=>⟨v,a,b.mono (Sub.refl _) tk8⟩⟩,F7.cells⟩
end
section
variable {M:Model}{A:Around}{E:Value→Shared→Prop}{s:Shared}
theorem Au {β : Type}{c:Bool}{l:List Value}{K:Value→Sem β}{Q : β→Shared→Prop}(h:∀ ctv h1,(∀ b o,s.heap.get? b=some o→h1.get? b=some o)→s.heap.objs.size≤h1.objs.size→wpAny M A (K ctv) Q E { s with heap:=h1 }):wpAny M A (if c=true then pure .none >>= K else newTextTuple l >>= K) Q E s:=by
 cases c with
 | true=>exact wpAny_bind (wpAny_pure (h .none s.heap (fun U U e=>e) (Nat.le_refl _)))
 | false=>exact wpAny_bind (wpAny_newTextTuple (h _ _ (aj s.heap _) (by rw[Heap.size_push];exact Nat.le_succ _)))
theorem wW (hc:env.code = .ref c)(C:CodeHd s.heap c P)(hP:s.heap.get? P=some (tabObj ps))(ht:TriplesOk ps.toList)
  (h:∀ cv h' tk,Heap.ExtBut P s.heap h'→s.heap.objs.size≤h'.objs.size →
   ((codeAmong pos ps.toList=some cv∧h'.get? P=some (tabObj ps))∨∃ c' oc vs t,cv = .ref c'∧s.heap.objs.size≤c'∧h'.get? c'=some oc∧oc.cls = .type "code"∧oc.data = .fields vs∧vs[1]? = some (.str qual t)∧codeAmong pos ps.toList=none∧h'.TableAt c P (ps++#[rawInt pos.line,rawInt pos.col,.ref c'])) →
   Q cv { s with heap:=h',toks:=tk }):wpAny M A (functionCode env pos firstLine name qual p scope body) Q E s:=by
 cases hq:codeAmong pos ps.toList with
 | some cv=>exact wpAny_functionCode_hit hc (C.code hP ht) hq (h cv s.heap s.toks (fun U U U e=>e) (Nat.le_refl _) (.inl ⟨hq,hP⟩))
 | none =>
  refine wpAny_functionCodeX hc (C.code hP ht) (C.tab hP) hq fun c' h' tk hx hge hlt U hrec htb hn=>?_
  refine eE1 (fun P'=>aA3 fun U U t=>?_) hn
  refine eE4 (fun c2 oc vs tk'=>aA4 fun e g d v=>?_) hrec
  obtain⟨⟨o2,v2,g2,cl2,_⟩,_⟩:=t
  replace e:=PySem.Value.ref.inj e;subst e
  have g2:=sj g g2;subst g2
  exact h _ _ _ hx (Nat.le_trans hge (Nat.le_of_lt hlt)) (.inr ⟨c',oc,vs,tk',rfl,hge,g,cl2,d,v,hq,htb⟩)
theorem iO {name qual:Str}{params:Arguments}{body:FuncBody}{scope:Scope}{env:Env}{c P:Addr}{ps:Array Value}{pos:Pos}{firstLine:Nat}{mg:Str→Option Value}{cL:List (Str × Addr)}{Q:Value→Shared→Prop}
  (hcl:closureFor scope env=pure cL)(hge0:env.globals=mainGlobals)(hg:s.heap.Ns mainGlobals mg)(hcode:env.code = .ref c)(C:CodeHd s.heap c P)(hP:s.heap.get? P=some (tabObj ps))(ht:TriplesOk ps.toList)(hgP:mainGlobals≠P)(hb:s.heap.BuiltinsAt mg P)
  (h:∀ cv ctv doc h' tk,Heap.ExtBut P s.heap h'→s.heap.objs.size≤h'.objs.size →
   ((codeAmong pos ps.toList=some cv∧h'.get? P=some (tabObj ps))∨∃ c' oc vs t,cv = .ref c'∧s.heap.objs.size≤c'∧h'.get? c'=some oc∧oc.cls = .type "code"∧oc.data = .fields vs∧vs[1]? = some (.str qual t)∧codeAmong pos ps.toList=none∧h'.TableAt c P (ps++#[rawInt pos.line,rawInt pos.col,.ref c'])) →
   Q (.ref h'.objs.size) { s with heap:=h'.push { cls:=.type "function",data:=.func { name,qualname:=qual,params,body,scope,globals:=mainGlobals,closure:=cL,defaults:=.none,kwdefaults:=.none,doc:=doc,pyModule:=(mg "__name__").getD .none,annotations:=none,code:=cv,closureTuple:=ctv,builtins:=builtinsNs } },toks:=tk }) :
  wpAny M A (makeFunction name qual params body scope env [] [] [] pos firstLine) Q E s:=by
 rw[makeFunction_eq]
 simp only[List.zip_nil_right,List.filterMap_nil,List.isEmpty_nil,if_true,pure_bind]
 refine eE2 (fun bm ob=>aA8 fun hbm hne0 U hneP hbo hcls hdict hdata=>?_) hb
 unfold makeTail
 rw[hcl,hge0]
 refine wpAny_bind (wpAny_pure (Au fun ctv h1 K le=>wpAny_bind (wW hcode (C.keeps K) (K _ _ hP) ht fun cv h' tk hx le2 made=>?_)))
 have hx':Heap.ExtBut P s.heap h':=fun b o nb e=>hx b o nb (K _ _ e)
 have hg':=hg.extBut hx' hgP
 refine wpAny_bind (wpAny_builtinsFor hg' hbm hne0 (hx' _ _ hneP hbo) hcls hdict hdata (wpAny_bind (wpAny_nsGet hg' ?_)))
 replace made:=Or.imp_right (fun z=>eE4 (fun c' oc vs t=>aA3 fun e ge r=>(⟨c',oc,vs,t,e,Nat.le_trans le ge,r⟩:∃ c' oc vs t,cv = .ref c'∧s.heap.objs.size≤c'∧h'.get? c'=some oc∧oc.cls = .type "code"∧oc.data = .fields vs∧vs[1]? = some (.str qual t)∧codeAmong pos ps.toList=none∧h'.TableAt c P (ps++#[rawInt pos.line,rawInt pos.col,.ref c']))) z) made
 have le:=Nat.le_trans le le2
 cases body with
 | expr x=>exact wpAny_bind (wpAny_pure (wpAny_newObj_type (h cv ctv .none h' _ hx' le made) (by size_fits)))
 | stmts b =>
  cases hdoc:docOf b with
  | none=>simp only[hdoc];exact wpAny_bind (wpAny_pure (wpAny_newObj_type (h cv ctv .none h' _ hx' le made) (by size_fits)))
  | some t=>simp only[hdoc];exact wpAny_bind (wpAny_mkText (wpAny_newObj_type (h cv ctv _ h' _ hx' le made) (by size_fits)))
end
theorem codeAmong_snoc (ok:TriplesOk l)(h:codeAmong pos (l++[rawInt a,rawInt b,x])=some cv):codeAmong pos l=some cv∨cv=x:=by
 fun_induction TriplesOk l with
 | case1 =>
  have h:(if(a == pos.line&&b == pos.col)=true then some x else none)=some cv:=h
  by_cases q:(a == pos.line&&b == pos.col)=true
  ·rw[if_pos q] at h;exact .inr (ab h).symm
  ·rw[if_neg q] at h;exact zns h
 | case2 l t c u y r ih =>
  have h:(if(l == pos.line&&c == pos.col)=true then some y else codeAmong pos (r++[rawInt a,rawInt b,x]))=some cv:=h
  show(if(l == pos.line&&c == pos.col)=true then some y else codeAmong pos r)=some cv∨_
  by_cases q:(l == pos.line&&c == pos.col)=true
  ·rw[if_pos q] at h ⊢;exact .inl h
  ·rw[if_neg q] at h ⊢;exact ih ok h
 | case3=>exact ok.elim
structure ir (W:Wd)(c P:Addr):Prop where
 tab:W.tabs P
 hd:CodeHd W.base c P
 t0:∃ ps0,W.base.TableAt c P ps0
 IU:W.K.lookup P=none
 ns:P≠cStatics
 mg:∃ mg o es ep,W.base.get? mainGlobals=some o∧o.cls≠.none∧o.data = .dict es ep∧StrKeys es∧(∀ name,nsFind es name=mg name)∧W.base.BuiltinsAt mg P
section
variable {W:Wd}{fs:List Env}{ι:Io}{H:Hp}{s:Shared}{c P:Addr}
theorem ir.code (T:ir W c P)(o:OldK W.base h):CodeHd h c P:=by
 refine eE9 (fun o1 vs file tf flags tg inF text tt=>aA3 fun e k r=>?_) (T.hd)
 exact⟨o1,vs,file,tf,flags,tg,inF,text,tt,o.get_of_cls e (by rw[k];exact fun z=>nomatch z),k,r⟩
theorem ir.globals (T:ir W c P)(o:OldK W.base h):∃ mg,h.Ns mainGlobals mg∧mainGlobals≠P∧h.BuiltinsAt mg P:=by
 refine bC fun G=>?_;refine eE4 (fun mg ob es ep=>aA6 fun g k d q1 q2=>eE2 fun bm om=>aA8 fun b1 b2 b3 b4 b5 b6 b7 b8=>?_) (T.mg)
 apply G;refine⟨mg,⟨ob,es,ep,o.get_of_cls g k,d,q1,q2⟩,fun z=>?_,bm,om,b1,b2,b3,b4,o.get_of_cls b5 (by rw[b6];exact fun z=>nomatch z),b6,b7,b8⟩
 refine bC fun G=>?_;refine eE1 (fun ps0=>aA2 fun U t=>?_) (T.t0)
 rw[z,t] at g;replace g:=ab g;subst g;injection d
theorem St.table (S:St W fs ι H s)(T:ir W c P)(hx:Heap.ExtBut P s.heap h')(g:s.heap.get? P=some (tabObj ps))(ok:TriplesOk ps.toList)
  (hc:(codeAmong pos ps.toList=some cv∧h'.get? P=some (tabObj ps))∨∃ c' oc vs t,cv = .ref c'∧s.heap.objs.size≤c'∧h'.get? c'=some oc∧oc.cls = .type "code"∧oc.data = .fields vs∧vs[1]? = some (.str (W.qual P) t)∧codeAmong pos ps.toList=none∧h'.TableAt c P (ps++#[rawInt pos.line,rawInt pos.col,.ref c']))
  : St W fs ι H ⟨h',s.gens,dr,tk,s.os⟩∧Ext W noX ι s.heap ι h'∧cz W ι h' cv (W.qual P):=by
 refine bC fun G=>?_;refine eE1 (fun ps1=>aA4 fun U g1 U cf=>?_) (S.tabs P T.tab)
 rw[g] at g1;cases g1
 rcases hc with ⟨hit,same⟩| ⟨c',oc,vs,t,rfl,ge,gc,kc,dc,vc,none,tb⟩
 ·have K:∀ b o,s.heap.get? b=some o→h'.get? b=some o:=fun b o e=>by
   by_cases z:b=P
   ·rw[z,g] at e;replace e:=ab e;subst e;rw[z];exact same
   ·exact hx b o z e
  apply G;exact⟨S.keeps K,.of_keeps K,(cf pos cv hit).mono (TK.of_keeps K)⟩
 ·obtain⟨ps0,t0⟩:=T.t0
  have bP:W.base.get? P=some _:=t0.2
  have off:∀ b,W.base.get? b=Option.none→b≠P:=fun b e z=>by rw[z,bP] at e;exact zsn e
  have tk':TK W ι s.heap ι h':=fun b o e q1 q2 no=>by
   refine⟨hx b o (fun z=>?_) e,no⟩
   rw[z,g] at e;replace e:=ab e;subst e
   rcases q1 with q1 | q1<;>injection q1
  have nfr:∀ L∈frs fs,L≠P:=fun L m=>off L (S.frames.mem m).1
  have own:∀ b,Own W ι b→b≠P:=fun b ob=>off b (S.fresh b ob).1
  have code:cz W ι h' (.ref c') (W.qual P):=⟨c',oc,vs,t,rfl,gc,kc,dc,vc,S.fv (aw ge)⟩
  apply G;refine⟨⟨S.bo,S.bp,S.mods,fun a o e=>hx a o (fun z=>(by rw[z,T.IU] at e;exact zns e)) (S.ground a o e),S.old.step_table t0 ((T.code S.old).tab g) tb hx T.ns,S.lim.extBut hx (fun z=>T.ns z.symm),
   bX S.frames fun x m y g=>⟨y,hx x y (nfr x m) g,rfl⟩,fun L m=>(by refine eE3 (fun o es n=>aA2 fun g d=>?_) (S.frd L m);exact⟨o,es,n,hx L o (nfr L m) g,d⟩),fun i ob e=>?_,S.dom,S.apart,S.fresh,S.aF,?_,S.gens,S.os,fun Q m=>?_⟩,
   ⟨Sub.refl _,tk',fun b o e k no U=>⟨o.slots,hx b o (fun z=>?_) e,fun U=>rfl⟩,fun b o e=>?_,fun b z=>.inl z⟩,code⟩
  ·refine eE1 (fun q=>aA2 fun a r=>?_) (S.live i ob e)
   exact⟨q,a,r.mono (Sub.refl _) tk' (fun x g=>hx _ _ (own _ (.inr ⟨i,q,a,.inl rfl⟩)) g) (fun x g=>hx _ _ (own _ (.inr ⟨i,q,a,.inr rfl⟩)) g)⟩
  ·refine bC fun G=>?_;obtain⟨⟨o1,g,r'⟩⟩:=S.src
   apply G;exact⟨⟨o1,hx _ _ (own _ (.inl rfl)) g,r'⟩⟩
  ·refine eE1 (fun qs=>aA4 fun b g2 t2 c2=>?_) (S.tabs Q m)
   by_cases z:Q=P
   ·subst z
    rw[g] at g2;cases g2
    refine⟨_,b,tb.2,by simpa using TriplesOk_snoc _ _ _ _ ok,fun pos' cv e=>?_⟩
    have e:codeAmong pos' (ps.toList++[rawInt pos.line,rawInt pos.col,.ref c'])=some cv:=by simpa using e
    rcases codeAmong_snoc ok e with e | rfl
    ·exact(c2 pos' cv e).mono tk'
    ·exact code
   ·exact⟨qs,b,hx _ _ z g2,t2,fun pos' cv e=>(c2 pos' cv e).mono tk'⟩
  ·rw[z,g] at e;replace e:=ab e;refine bC fun G=>?_;subst e
   rcases k with k | k
   ·apply G;exact k rfl
   ·rw[z,bP] at k;exact zsn k
  ·by_cases z:b=P
   ·exact⟨_,z▸tb.2⟩
   ·exact⟨o,hx b o z e⟩
end
structure qH (W:Wd)(sc:Sc)(scope:Scope)(q:Str)(c P:Addr):Prop where
 code:∃ q0,sc.code=some (c,q0)∧q=q0
 tab:ir W c P
 free:∀ n,(n,NameKind.free)∈scope.names→∃ i:Nat,sc.cells[i]? = some n∧(sc.names.lookup n=some .cell∨sc.names.lookup n=some .free)
structure F0 (W:Wd)(sc:Sc)(scope:Scope)(g:Nat)(l:List Nat):Prop where
 free:∀ (i:Nat) n,(W.free g)[i]? = some n→(n,NameKind.free)∈scope.names∧∃ ci,l[i]? = some ci∧sc.cells[ci]? = some n∧(sc.names.lookup n=some .cell∨sc.names.lookup n=some .free)
section
variable {W:Wd}{sc:Sc}
theorem mD {scope:Scope}{q:Str}{c P:Addr}(no:qH W sc scope q c P){r:Rt}{d:Nat}{A:Around}{fs:List Env}{env:Env}{f:Fm}{ι:Io}{H:Hp}{s:Shared}{E:Value→Shared→Prop}(h:Here W sc r d A fs env f ι H s)
  (hq:qual=W.qual P)
  (hQ:∀ cv ctv doc pm s',St W fs ι H s'→Ext W noX ι s.heap ι s'.heap→cz W ι s'.heap cv qual →
   Q (.ref s'.heap.objs.size) { s' with heap:=s'.heap.push { cls:=.type "function",data:=.func { name,qualname:=qual,params,body,scope,globals:=mainGlobals,closure:=takes env.cells scope.names [],defaults:=.none,kwdefaults:=.none,doc:=doc,pyModule:=pm,annotations:=none,code:=cv,closureTuple:=ctv,builtins:=builtinsNs } } }) :
  wpAny (model W.prog W.w) A (makeFunction name qual params body scope env [] [] [] pos firstLine) Q E s:=by
 have hclos:closureFor scope env=pure (takes env.cells scope.names []):=dU fun n m=>by
  refine eE1 (fun i=>aA2 fun e1 e2=>?_) (no.free n m)
  refine eE3 (fun U a U=>aA3 fun U U g=>?_) (h.fr.cells i n e1 e2)
  exact⟨a,g⟩
 refine bC fun G=>?_;refine eE1 (fun q0=>aA2 fun hc U=>?_) (no.code)
 obtain⟨ec,_⟩:=h.eo.code _ hc
 refine eE1 (fun ps=>aA4 fun U g ok U=>?_) (h.st.tabs P no.tab.tab)
 refine eE1 (fun mg=>aA3 fun hg hgP hb=>?_) (no.tab.globals h.st.old)
 apply G;refine iO hclos h.eo.globals hg ec (no.tab.code h.st.old) g ok hgP hb fun cv ctv doc h' tk hx le hcv=>?_
 refine aA3 (fun S1 E1 C1=>?_) (h.st.table no.tab hx g ok (hq▸hcv) (tk:=tk) (dr:=s.drawn))
 exact hQ cv ctv doc _ ⟨h',s.gens,s.drawn,tk,s.os⟩ S1 E1 (hq▸C1)
theorem pick_true:∀ {l:List Nat},pick c l k=true→∃ js,k js=true∧∀ (i ci:Nat),l[i]? = some ci→∃ j:Nat,js[i]? = some j∧c[ci]? = some j:=by
 intro l
 have:∀ (l:List Nat)(k:List Nat→Bool),(@List.rec Nat (fun U=>(List Nat→Bool)→Bool) (fun k=>k []) (fun i U ih k=>jZ c i fun j=>ih fun js=>k (j :: js)) l k)=true→∃ js,k js=true∧∀ (i ci:Nat),l[i]? = some ci→∃ j:Nat,js[i]? = some j∧c[ci]? = some j:=by
  intro l
  induction l with
  | nil=>intro k t;exact⟨[],t,fun i ci e=>by exact zns e⟩
  | cons a r ih =>
   intro k t
   refine eE1 (fun j=>aA2 fun g t=>?_) (cC t)
   refine eE1 (fun js=>aA2 fun t q=>?_) (ih (fun js=>k (j :: js)) t)
   refine⟨j :: js,t,fun i ci e=>?_⟩
   cases i with
   | zero=>simp only[List.getElem?_cons_zero,Option.some.injEq] at e;subst e;exact⟨j,rfl,g⟩
   | succ i=>simp only[List.getElem?_cons_succ] at e ⊢;exact q i ci e
 exact this l k
theorem ED {params:Arguments}{body:Expr}{scope:Scope}{pos:Pos}{q:Str}{c P:Addr}{g:Nat}{l:List Nat}(no:qH W sc scope q c P)(co:F0 W sc scope g l)(hd0:params.defaults=[])(hk0:params.kw_defaults=[])(hq:q++("<lambda>" : Str)=W.qual P)
  (hW:∀ fd:FuncData,fd.params=params→fd.body = .expr body→fd.scope=scope→fd.globals=mainGlobals→fd.builtins=builtinsNs→fd.defaults = .none→fd.kwdefaults = .none→W.cL g fd) :
  SX W sc (G1 g l) (.Lambda params body scope pos):=fun r d A fs env f ι H s k e h t=>by
 have he:eval (.Lambda params body scope pos) env=(do
   let dv ← evalAll (defaultsOf params env).1
   let kdv ← holding dv (evalAllOpt (defaultsOf params env).2)
   makeFunction "<lambda>" (env.qual++"<lambda>") params (.expr body) scope env dv kdv [] pos pos.line):=rfl
 rw[he,defaultsOf_eq,hd0,hk0]
 refine wpAny_bind (wpAny_pure (wpAny_bind (wpAny_holding (wpAny_pure ?_))))
 refine bC fun G=>?_;refine eE1 (fun q0=>aA2 fun hc q1=>?_) (no.code)
 obtain⟨_,eq⟩:=h.eo.code _ hc
 have t:pick f.c l (fun js=>bM H (.cL g js) fun i h=>k (.ref i) h)=true:=by cases f;exact t
 refine eE1 (fun js=>aA2 fun t pk=>?_) (pick_true t)
 rw[aT] at t
 apply G;refine mD no h (by rw[eq,← hq,q1]) fun cv ctv doc pm s' S1 E1 C1=>?_
 have K:=aj s'.heap { cls:=.type "function",data:=.func { name:="<lambda>",qualname:=env.qual++("<lambda>" : Str),params,body:=.expr body,scope,globals:=mainGlobals,closure:=takes env.cells scope.names [],defaults:=.none,kwdefaults:=.none,doc:=doc,pyModule:=pm,annotations:=none,code:=cv,closureTuple:=ctv,builtins:=builtinsNs } }
 have nn:=aw (h:=s'.heap) (Nat.le_refl _)
 obtain⟨S2,E2⟩:=S1.new K (p:=(s'.heap.objs.size,s'.heap.objs.size)) (o:=.cL g js) (tk:=s'.toks) (dr:=s'.drawn) nn nn fun tk=>by
  refine⟨rfl,_,_,Heap.get?_push_size _ rfl,rfl,rfl,hW _ rfl rfl rfl rfl rfl rfl rfl,C1.mono tk,fun i n e=>?_⟩
  refine aA2 (fun m=>eE1 fun ci=>aA3 fun e1 e2 e3=>?_) (co.free i n e)
  refine eE3 (fun j a d=>aA3 fun f1 f2 f3=>?_) (h.fr.cells ci n e2 e3)
  refine eE1 (fun j'=>aA2 fun g1 g2=>?_) (pk i ci e1)
  rw[f1] at g2;replace g2:=ab g2;subst g2
  exact⟨a,j,d,hM f3 (.inl m),g1,aN S1.unused _ _ f2⟩
 exact⟨_,_,_,S2,E1.trans E2,.ref (ao _ _ _),t⟩
theorem FJ {params:Arguments}{body:List Stmt}{scope:Scope}{pos:Pos}{q name:Str}{c P:Addr}{t:CT}(no:qH W sc scope q c P)(ht:∃ i,(t=cV i∧sc.slots.Nodup∧sc.slots[i]? = some name∧sc.names.lookup name=some .local)∨(t=nF i∧sc.cells[i]? = some name∧sc.names.lookup name=some .cell))
  (hd0:params.defaults=[])(hk0:params.kw_defaults=[])(ha:∀ env,annTrees params none env=[])(hq:q++name=W.qual P):SS W sc (Gy t) (.FunctionDef name params body [] none [] scope none name pos):=fun r d A fs env f ι H s kn kc kr ke h tt=>by
 refine bC fun G=>?_;refine eE1 (fun q0=>aA2 fun hc q1=>?_) (no.code)
 obtain⟨_,eq⟩:=h.eo.code _ hc
 obtain⟨i,ht⟩:=ht
 have hk:(env.kindOf name == some .globalExplicit)=false:=by
  rw[h.kindOf]
  revert ht;refine oO (aA4 fun U U U e=>?_) (aA3 fun U U e=>?_)<;>rw[e]<;>rfl
 have qn:qualnameIn env name name=env.qual++name:=by unfold qualnameIn;rw[hk];rfl
 apply G;refine nestDef_K hd0 hk0 (ha env) ?_
 rw[qn]
 refine mD no h (by rw[eq,← hq,q1]) fun cv ctv doc pm s' S1 E1 C1=>?_
 have K:=aj s'.heap { cls:=.type "function",data:=.func { name:=name,qualname:=env.qual++name,params,body:=.stmts body,scope,globals:=mainGlobals,closure:=takes env.cells scope.names [],defaults:=.none,kwdefaults:=.none,doc:=doc,pyModule:=pm,annotations:=none,code:=cv,closureTuple:=ctv,builtins:=builtinsNs } }
 have S2:=S1.keeps K (tk:=s'.toks) (dr:=s'.drawn)
 have E2:Ext W noX ι s.heap ι _:=E1.trans (.of_keeps K)
 have h2:=h.next S2 E2
 refine bC fun G=>?_;rcases ht with ⟨rfl,nd,e1,e2⟩| ⟨rfl,e1,e2⟩
 ·apply G;exact wpAny_mono (fM nd e1 e2 h2 (.any _) (k:=kn) (E:=PXE W sc fs env ι s ke) (dh tt)) (fun U s3 P=>by
   obtain⟨ι3,H3,f3,S3,E3,F3,t3⟩:=P
   exact⟨ι3,H3,f3,S3,E2.atl.trans E3,F3,t3⟩) fun U U z=>z
 ·apply G;exact wpAny_mono (mf e1 e2 h2 (.any _) (k:=kn) (E:=PXE W sc fs env ι s ke) tt) (fun U s3 P=>by
   obtain⟨ι3,H3,f3,S3,E3,F3,t3⟩:=P
   exact⟨ι3,H3,f3,S3,E2.atl.trans E3,F3,t3⟩) fun U U z=>z
end
section
variable {W:Wd}{sc:Sc}
theorem yP {k pos pos'}:SX W sc (xk (.int (-i))) (.UnaryOp .USub (.Constant (.int i) k pos) pos'):=fun r d A fs env f ι H s kk e h t =>
 wpAny_UnaryOp (wpAny_Constant_int (PyProof.Rows.neg_int ⟨ι,H,_,(h.st.toks _).toks _,.of_keeps fun U U e=>e,.int _ _,t⟩))
theorem fh (h:env.scope.kind = .function):interactive env=false:=by unfold interactive;rw[h];rfl
theorem Ai (hx:SX W sc x e1)(hs:∀ env line,swapsWith e1 none line env=pure false:=by intros;rfl):SS W sc (sex x) (.Expr e1 pos):=fun r d A fs env f ι H s kn kc kr ke h t=>by
 refine wpAny_Expr_any (wpAny_mono (hx r d A fs env f ι H s (fun U h=>kn f h) (fun i h=>ke i f h) h t) (fun v s1 P=>?_) fun U U z=>z.px h.fr) (fh h.eo.kind) (hs env _)
 obtain⟨ι1,H1,y,S1,E1,rv,t⟩:=P
 exact⟨ι1,H1,f,S1,E1.atl,h.fr.ext E1 id,t⟩
set_option tactic.hygienic true in
theorem vV {k1 k2 p1 p2}(h:swp sc.names ts vs=some r)(hn:env.scope.names=sc.names)(hk:env.scope.kind = .function):swappedStores [.Tuple ts k1 p1] (.Tuple vs k2 p2) env=pure r:=by
 have e1:env.kindOf=fun n=>sc.names.lookup n:=by funext n;unfold Env.kindOf;rw[hn]
 have e2:env.blockKind = .function:=by unfold Env.blockKind;rw[hk];rfl
 unfold swappedStores
 rw[e1,e2]
 unfold swp at h
 dsimp only
 have e3:(ScopeKind.function != ScopeKind.function)=false:=rfl
 rw[e3,Bool.or_false]
 split at h
 ·rename_i q;replace h:=ab h;subst h;exact if_pos q
 ·rename_i q;refine(if_neg q).trans ?_
  split at h
  ·rename_i q;replace h:=ab h;subst h;exact if_pos q
  ·rename_i q;refine(if_neg q).trans ?_
   split at h
   ·rename_i q;replace h:=ab h;subst h;exact if_pos q
   ·rename_i q;refine(if_neg q).trans ?_
    split at h
    ·rename_i q;replace h:=ab h;subst h;exact if_pos q
    ·rename_i q;refine(if_neg q).trans ?_
     split at h
     ·exact zns h
     ·rename_i q;replace h:=ab h;subst h;exact(if_neg q).trans rfl
def SWn (W:Wd)(sc:Sc)(ts:CTs)(ns:List Str):Prop:=∀ (r:Rt)(d:Nat)(A:Around)(fs:List Env)(env:Env)(f:Fm)(ι:Io)(H:Hp)(s:Shared)(vs:List Value)(xs:List Vl)(k:KF)(e:KX)(E:Value→Shared→Prop),
 Here W sc r d A fs env f ι H s→RVs W ι s.heap vs xs→ts r f xs H k e=true→wpAny (model W.prog W.w) A (assignInOrder (ns.map fun n=>bindName env n) vs) (PF W sc fs env ι s k) E s
theorem AP:SWn W sc BW []:=fun r d A fs env f ι H s vs xs k e E h rvs t=>by
 cases xs with
 | cons _ _=>exact ft t
 | nil =>
  cases rvs
  exact wpAny_assignInOrder_none ⟨ι,H,f,h.st,.refl,h.fr,t⟩
theorem y9 {n:Str}{i:Nat}{ts:CTs}{ns:List Str}(nd:sc.slots.Nodup)(hs:sc.slots[i]? = some n)(hn:sc.names.lookup n=some .local)(h2:SWn W sc ts ns):SWn W sc (sC (cV i) ts) (n :: ns):=fun r d A fs env f ι H s vs xs k e E h rvs tt=>by
 cases xs with
 | nil=>exact ft tt
 | cons x xs =>
  cases rvs with
  | cons rv rvs =>
   have tt:cV i r f x H (fun f h=>ts r f xs h k e) e=true:=tt
   show wpAny _ A (assignInOrder ((fun v=>bindName env n v) :: ns.map fun n=>bindName env n) _) _ _ s
   refine wpAny_assignInOrder_more (wpAny_bindName (wpAny_mono (fM nd hs hn h rv (k:=fun f h=>ts r f xs h k e) (E:=E) (dh tt)) (fun u s1 P=>?_) fun U U z=>z))
   obtain⟨ι1,H1,f1,S1,E1,F1,t⟩:=P
   exact wpAny_mono (h2 r d A fs env f1 ι1 H1 s1 _ xs k e E (h.with S1 F1) (rvs.ext E1) t) (fun U U z=>z.from E1) fun U U z=>z
set_option tactic.hygienic true in
theorem Fs {k1 k2 p1 p2}(hsw:swp sc.names tgs vs=some (some names))(hn:names.length=n)(ht:SWn W sc ts names.reverse)(hx:SX W sc x (.Tuple vs k2 p2)) :
  SS W sc (HF n ts x) (.Assign [.Tuple tgs k1 p1] (.Tuple vs k2 p2) pos):=fun r d A fs env f ι H s kn kc kr ke h tt=>by
 refine Assign_Tuple_swapped (names:=names) (wpAny_mono (hx r d A fs env f ι H s _ _ h tt) (fun v s1 P=>?_) fun _ _ z=>z.px h.fr) rfl (vV hsw h.eo.names h.eo.kind)
 refine bC fun G=>?_;obtain⟨ι1,H1,y,S1,E1,rv,t'⟩:=P
 refine eE1 (fun l=>aA3 fun hy ln t=>?_) (mq (k:=fun l=>ts r f (fU l) H1 kn ke) t')
 subst hy
 refine eE3 (fun _ _ _=>aA5 fun z5q3 g le rvs no=>?_) (rv.inv);obtain rfl:=z5q3;apply G;next =>
  rename_i a vs' m
  have len:=rvs.length
  simp only[Array.length_toList] at len
  rw[hn,← ln,← len]
  refine PySem.wpAny_unpackItems_tuple h.ar.handled ⟨_,g,rfl,_,rfl⟩ fun h' eb=>?_
  have K:∀ b o,s1.heap.get? b=some o→h'.get? b=some o:=fun b o g=>eb b o (fun z=>by rw[z,aw (Nat.le_refl _)] at g;exact zns g) g
  have S2:=S1.keeps K (tk:=s1.toks) (dr:=s1.drawn)
  have E2:Ext W noX ι1 s1.heap ι1 h':=.of_keeps K
  rw[eK] at t
  have h2:=(h.next S1 E1).next S2 E2
  refine wpAny_mono (ht r d A fs env f ι1 H1 _ _ l.reverse kn ke (PXE W sc fs env ι s ke) h2 (by simpa using (rvs.ext E2).reverse) t) (fun u s3 P=>?_) fun _ _ z=>z
  obtain⟨ι3,H3,f3,S3,E3,F3,t3⟩:=P
  exact⟨ι3,H3,f3,S3,(E1.trans E2).atl.trans E3,F3,t3⟩
inductive RPs (W:Wd)(ι:Io)(h:Heap):List (Value × Value)→List Vl→Prop
 | nil:RPs W ι h [] []
 | cons {k v x y r xs}:RV W ι h k x→RV W ι h v y→RPs W ι h r xs→RPs W ι h ((k,v) :: r) (.tup [x,y] :: xs)
set_option tactic.hygienic true in
theorem vM (rp:RPs W ι h vs xs)(r:RK W ι h kvs acc)(nd:(kvs.map (·.1)).Nodup)(t:nQ xs acc k=true) :
  ∃ more m,Carries W.sk vs more∧more.length=xs.length∧RK W ι h (merged kvs more) m∧k m=true:=by
 induction rp generalizing acc kvs with
 | nil=>exact⟨[],acc,trivial,rfl,r,t⟩
 | @cons kk vv x y rr xs rk rv rest ih =>
  have t:ed x (fun s=>nQ xs (dput s y acc) k)=true:=t
  refine bC fun G=>?_;refine eE1 (fun c=>aA2 fun z7q1 t=>?_) (aG t);obtain rfl:=z7q1
  refine eE2 (fun _ tk=>aA2 fun z8q2 hs=>?_) (rk.inv);obtain rfl:=z8q2;apply G;next =>
   rename_i s0
   refine eE2 (fun more m=>aA4 fun h1 h2 h3 h4=>?_) (ih (RK.stored hs rv r nd) (eI nd) t)
   exact⟨(s0,_) :: more,m,⟨nU W _ tk,rfl,h1⟩,by simp only[List.length_cons,h2],h3,h4⟩
def SP (W:Wd)(sc:Sc)(x:CL)(ks:List (Option Expr))(vs:List Expr):Prop:=∀ (pos:Pos)(r:Rt)(d:Nat)(A:Around)(fs:List Env)(env:Env)(f:Fm)(ι:Io)(H:Hp)(s:Shared)(k:KL)(e:KE),
 Here W sc r d A fs env f ι H s→x r f H k e=true→wpAny (model W.prog W.w) A (evalPairs (pairTrees ks vs env pos)) (fun v s'=>∃ ι' H' x,St W fs ι' H' s'∧Ext W noX ι s.heap ι' s'.heap∧RPs W ι' s'.heap v x∧k x H'=true∧x.length=ks.length) (PE W fs noX ι s e) s
theorem Eo:SP W sc eE [] []:=fun pos r d A fs env f ι H s k e h t=>wpAny_pure ⟨ι,H,[],h.st,.refl,.nil,t,rfl⟩
theorem zO (hk:SX W sc kx ke)(hv:SX W sc vx ve)(hl:SP W sc l ks vs):SP W sc (bz (vG (bz kx (bz vx eE))) l) (some ke :: ks) (ve :: vs):=fun pos r d A fs env f ι H s k e h t=>by
 have t:kx r f H (fun a h=>vx r f h (fun b h=>mkT [a,b] h (fun v h=>l r f h (fun vs h=>k (v :: vs) h) e)) e) e=true:=t
 show wpAny _ A (do let kv ← eval ke env;let vv ← holding [kv] (do let x ← eval ve env;standAt pos;pure x);return (kv,vv) :: (← holding [kv,vv] (evalPairs (pairTrees ks vs env pos)))) _ _ s
 refine wpAny_bind (wpAny_mono (hk r d A fs env f ι H s _ e h t) (fun kv s1 P=>?_) fun U U z=>z)
 refine bC fun G=>?_;obtain⟨ι1,H1,x,S1,E1,rv1,t⟩:=P
 have h1:=h.next S1 E1
 apply G;refine wpAny_bind (wpAny_holding (wpAny_bind (wpAny_mono (hv r d A fs env f ι1 H1 s1 _ e h1 t) (fun vv s2 P=>?_) fun U U z=>z.from E1)))
 refine bC fun G=>?_;obtain⟨ι2,H2,y,S2,E2,rv2,t⟩:=P
 obtain⟨_,t⟩:=aA t
 apply G;refine wpAny_bind (wpAny_standAt (wpAny_pure (wpAny_bind (wpAny_holding (wpAny_mono (hl pos r d A fs env f ι2 H2 s2 _ e (h1.next S2 E2) t) (fun rest s3 P=>?_) fun U U z=>(z.from E2).from E1)))))
 revert P;refine eE3 fun ι3 H3 xs=>aA5 fun S3 E3 rps t lx=>?_
 exact wpAny_pure ⟨ι3,H3,_,S3,(E1.trans E2).trans E3,.cons ((rv1.ext E2).ext E3) (rv2.ext E3) rps,t,by simp only[List.length_cons,lx]⟩
theorem pj (S:St W fs ι H s):St W fs (aH ι H.n (s.heap.objs.size,s.heap.objs.size)) (H.add (.dict [])) { s with heap:=s.heap.push { cls:=.type "dict",data:=.dict #[] } }∧Ext W noX ι s.heap (aH ι H.n (s.heap.objs.size,s.heap.objs.size)) (s.heap.push { cls:=.type "dict",data:=.dict #[] }):=by
 have nn:=aw (h:=s.heap) (Nat.le_refl _)
 exact S.new (aj s.heap { cls:=.type "dict",data:=.dict #[] }) (p:=(s.heap.objs.size,s.heap.objs.size)) (o:=.dict []) (tk:=s.toks) (dr:=s.drawn) nn nn fun U=>⟨rfl,Nat.zero_le _,[],Heap.DictOf.new s.heap,.nil⟩
theorem oS (t:Ag l r f H k e=true):l r f (H.add (.dict [])) (fun vs h=>aL h H.n fun o=>(bO false (fun d=>nQ vs d fun m=>small m (aX h H.n (.dict m) fun h=>k (.ref H.n) h)) o)) e=true:=by
 have t:bM H (.dict []) _=true:=t
 rw[aT] at t;exact t
theorem mI (t:aX H i o k=true):k (H.set i o)=true:=by rw[bl] at t;exact t
theorem Aq:SX W sc (Ag eE) (.Dict [] [] pos):=fun r d A fs env f ι H s k e h t=>by
 have t:=oS t
 refine bC fun G=>?_;refine eE1 (fun o=>aA2 fun go t=>?_) (af (h:=H.add (.dict [])) (i:=H.n) t)
 have go':(H.add (.dict [])).t.get H.n=some (.dict []):=by show(H.t.set (.dict []) H.n).get H.n=_;rw[Tri.get_set,if_pos rfl]
 rw[go] at go';replace go':=ab go';subst go'
 have t:small ([]:List (Nat × Vl)) (aX (H.add (.dict [])) H.n (.dict []) fun h=>k (.ref H.n) h)=true:=t
 obtain⟨_,t⟩:=aA t
 have t:=mI t
 obtain⟨S1,E1⟩:=pj h.st
 apply G;refine wpAny_Dict_empty ?_
 obtain⟨S2,E2⟩:=S1.upd (o:=.dict []) (ao _ _ _) (.inl rfl) (Heap.SameBut.refl _ _) ⟨_,Heap.get?_push_size _ rfl⟩ (fun tk=>⟨rfl,Nat.zero_le _,[],Heap.DictOf.new s.heap,.nil⟩) (tk:=s.toks) (dr:=s.drawn)
 exact⟨_,_,_,S2,E1.trans E2,.ref (ao _ _ _),t⟩
set_option tactic.hygienic true in
theorem DT (hl:SP W sc l ks vs)(hall:ks.all (·.isSome)=true)(hlen:ks.length=vs.length)(h0:ks≠[])(h15:ks.length≤15):SX W sc (Ag l) (.Dict ks vs pos):=fun r d A fs env f ι H s k e h t=>by
 have t:=oS t
 obtain⟨S1,E1⟩:=pj h.st
 have ho:(aH ι H.n (s.heap.objs.size,s.heap.objs.size)) H.n=some (s.heap.objs.size,s.heap.objs.size):=ao _ _ _
 refine wpAny_Dict_any hall hlen h0 h15 (wpAny_mono (hl pos r d A fs env f _ _ _ _ e (h.next S1 E1) t) (fun ps s2 P=>?_) fun U U z=>z.from E1)
 refine bC fun G=>?_;revert P;refine eE3 fun ι2 H2 xs=>aA5 fun S2 E2 rps t lx0=>?_
 refine eE1 (fun o=>aA2 fun go t=>?_) (af t)
 cases o<;>first | exact nf t | exact ns t | skip
 rename_i d0
 have e2:=E2.sub _ _ ho
 obtain⟨eq,ln,kvs,gd,rk⟩:=S2.ro e2 go
 have nd:(kvs.map (·.1)).Nodup:=by revert gd;refine eE3 fun U U U=>aA6 fun U U U U U z=>?_;exact z
 refine eE2 (fun more m=>aA4 fun c1 c2 c3 t=>?_) (vM rps rk nd t)
 obtain⟨lm,t⟩:=aA t
 have t:=mI t
 have lx:more.length≤15:=by omega
 apply G;unfold storeAll
 refine wpAny_storeAll ps more kvs s2 _ c1 gd (by have:=rk.length;unfold sizeLine;omega) fun h' gd' sb=>?_
 obtain⟨S3,E3⟩:=gZ S2 e2 go gd' sb lm c3 (tk:=s2.toks+ps.length) (dr:=s2.drawn)
 exact⟨ι2,_,_,S3,(E1.trans E2).trans E3,.ref (E3.sub _ _ e2),t⟩
end
section
variable {W:Wd}{A:Around}{fs:List Env}{d:Nat}{ι:Io}{H:Hp}{s:Shared}{E:Value→Shared→Prop}
theorem eM (S:St W fs ι H s){h':Heap}(K:∀ b o,s.heap.get? b=some o→h'.get? b=some o){a:Addr}{items:Array Value}{m:Nat}{l:List Vl}{k:KV}(n:s.heap.get? a=none)(g:IsL h' a items m)(rv:RVs W ι s.heap items.toList l)(t:mkL l H k=true){tk:Nat}{dr:Drawn} :
  PX W fs noX ι s k (.ref a) ⟨h',s.gens,dr,tk,s.os⟩:=by
 refine bC fun G=>?_;obtain⟨ln,t⟩:=aA t
 rw[aT] at t
 obtain⟨S2,E2⟩:=S.new K (p:=(a,a)) (o:=.list l) (tk:=tk) (dr:=dr) n n fun tk=>⟨rfl,ln,_,m,g,rv.mono (aN S.unused) tk⟩
 apply G;exact⟨_,_,_,S2,E2,.ref (ao _ _ _),t⟩
theorem gB (S:St W fs ι H s)(K:∀ b o,s.heap.get? b=some o→h'.get? b=some o)(n:s.heap.get? a=none)(g:h'.DictOf W.sk a kvs)(rk:RK W ι s.heap kvs l)(t:mkD l H k=true) :
  PX W fs noX ι s k (.ref a) ⟨h',s.gens,dr,tk,s.os⟩:=by
 refine bC fun G=>?_;obtain⟨ln,t⟩:=aA t
 rw[aT] at t
 obtain⟨S2,E2⟩:=S.new K (p:=(a,a)) (o:=.dict l) (tk:=tk) (dr:=dr) n n fun tk=>⟨rfl,ln,_,g,rk.mono (aN S.unused) tk⟩
 apply G;exact⟨_,_,_,S2,E2,.ref (ao _ _ _),t⟩
theorem Fn (S:St W fs ι H s)(rvs:RVs W ι s.heap vs xs)(t:Ip xs H k=true):wpAny (model W.prog W.w) A (call (.builtin "len") vs) (PX W fs noX ι s k) E s:=by
 refine bC fun G=>?_;refine eE1 (fun x=>aA2 fun z5q1 t=>?_) (aU (t:=fun x=>items H x fun m=>k (.int (.ofNat (eZ m))) H) t);obtain rfl:=z5q1
 refine eE1 (fun v=>aA2 fun z6q1 rv=>?_) (bk rvs);obtain rfl:=z6q1
 rcases eB t with ⟨l,rfl,t1⟩| ⟨i,l,rfl,go,t1⟩<;>rw[eJ] at t1
 ·obtain⟨_,_,_,rfl,g,ln,rvs,no⟩:=rv.inv;apply G;next =>
   have len:=rvs.length
   simp only[Array.length_toList] at len
   refine len_tuple ⟨_,g,rfl,_,rfl⟩ (by omega) ⟨ι,H,_,(S.toks _).toks _,.of_keeps fun U U e=>e,?_,t1⟩
   rw[len];exact .int _ _
 ·refine eE1 (fun p=>aA3 fun ep z8q2 z8r=>?_) (S.get rv go);obtain rfl:=z8q2;obtain⟨eq,ln,vs,n,g,rvs⟩:=z8r
  have len:=rvs.length
  simp only[Array.length_toList] at len
  apply G;refine PySem.Calls.call_len_list (aE g) (by omega) ⟨ι,H,_,(S.toks _).toks _,.of_keeps fun U U e=>e,?_,t1⟩
  rw[len];exact .int _ _
theorem Dn (S:St W fs ι H s)(rvs:RVs W ι s.heap vs xs)(t:Hi xs H k=true):wpAny (model W.prog W.w) A (call (.type "int") vs) (PX W fs noX ι s k) E s:=by
 refine eE1 (fun x=>aA2 fun z9q1 t=>?_) (aU (t:=fun x=>bool? x fun t=>k (.int (.ofNat (@Bool.rec (fun U=>Nat) 0 1 t))) H) t);obtain rfl:=z9q1
 refine eE1 (fun v=>aA2 fun z10q1 rv=>?_) (bk rvs);obtain rfl:=z10q1
 refine eE1 (fun b=>aA2 fun z11q1 t=>?_) (kR t);obtain rfl:=z11q1
 obtain rfl:=rv.inv
 refine call_int_bool ⟨ι,H,_,S.toks _,.of_keeps fun U U e=>e,?_,t⟩
 cases b<;>exact .int _ _
theorem yn (h:n≤9):ag (Str.ofString (toString (Int.ofNat n))) (n+48):=by
 have:∀ n,n≤9→enc (Str.ofString (toString (Int.ofNat n))).cps.toList=n+48∧(∀ x∈(Str.ofString (toString (Int.ofNat n))).cps.toList,0 < x∧x < 128)∧(Str.ofString (toString (Int.ofNat n))).cps.toList.length≤1000:=by decide +kernel
 exact⟨(this n h).1,(this n h).2.1,(this n h).2.2⟩
theorem DF (S:St W fs ι H s)(rvs:RVs W ι s.heap vs xs)(t:Hh xs H k=true):wpAny (model W.prog W.w) A (call (.type "str") vs) (PX W fs noX ι s k) E s:=by
 refine bC fun G=>?_;refine eE1 (fun x=>aA2 fun z13q1 t=>?_) (aU (t:=fun x=>nat? x fun n=>(@Bool.rec (fun U=>Bool) false (k (.str (Nat.add n 48)) H) (Nat.ble n 9))) t);obtain rfl:=z13q1
 refine eE1 (fun v=>aA2 fun z14q1 rv=>?_) (bk rvs);obtain rfl:=z14q1
 refine eE1 (fun n=>aA2 fun z15q1 t'=>?_) (bG (k:=fun n=>(@Bool.rec (fun U=>Bool) false (k (.str (Nat.add n 48)) H) (Nat.ble n 9))) t);obtain rfl:=z15q1
 obtain⟨le,t⟩:=ae t'
 have le:=bS le
 obtain⟨tk,rfl⟩:=rv.inv;next =>
 apply G;refine P.str_of_int ?_ ⟨ι,H,_,S.toks _,.of_keeps fun U U e=>e,.str _ (yn le),t⟩
 exact(by decide +kernel:∀ n:Nat,n≤9→(Int.ofNat n).natAbs.log2 < 1920) n le
set_option tactic.hygienic true in
theorem FH (S:St W fs ι H s)(rvs:RVs W ι s.heap vs xs)(t:mS xs H k=true):wpAny (model W.prog W.w) A (call (.builtin "isinstance") vs) (PX W fs noX ι s k) E s:=by
 replace t:=jy (g:=fun x y=>mS [x,y] H k) t;revert t;refine eE2 fun x y=>aA2 fun z18q2 t=>?_;obtain rfl:=z18q2
 refine eE2 (fun v w=>aA3 fun z19q2 r1 r2=>?_) (rvs.two);obtain rfl:=z19q2;next =>
  cases y<;>first | exact nf t | skip
  rename_i n
  replace t:=ae t;obtain⟨e,t⟩:=t
  obtain rfl:=aD e
  obtain rfl:=ab (show some (Value.type "bool")=some w from r2.inv)
  cases x<;>first | exact nf t | skip
  ·obtain rfl:=r1.inv
   exact call_isinstance (isinstance_true (Tx:="bool") (T:="bool") (by kernel_rfl) (by rw[isSubtype_type];kernel_rfl)) ⟨PySem.typeIs_bool _ _,ι,H,_,S,.refl,.bool _,t⟩
  ·obtain⟨_,rfl⟩:=r1.inv
   exact call_isinstance (isinstance_false_int (T:="bool") (by decide) (by kernel_rfl) (by rw[isSubtype_type];kernel_rfl)) ⟨ι,H,_,S.toks _,.of_keeps fun U U e=>e,.bool _,t⟩
theorem uH {ι:Io}{h:Heap}{vs:List Value}{l:List Vl}{acc:Nat}{k:Int→Bool}(rvs:RVs W ι h vs l)(t:(@List.rec Vl (fun U=>Nat→Bool) (fun acc=>k (.ofNat acc)) (fun p U ih acc=>nat? p fun n=>(@Bool.rec (fun U=>Bool) false (ih (Nat.add acc n)) (Nat.ble n 1000))) l acc)=true) :
  ∃ xs:List (Nat × Tok),vs=xs.map (fun p=>Value.int (Int.ofNat p.1) p.2)∧(∀ p∈xs,p.1≤1000)∧k (.ofNat (acc+(xs.map (·.1)).sum))=true:=by
 induction l generalizing vs acc with
 | nil =>
  rw[show vs=[] from rvs.inv]
  exact⟨[],rfl,(fun U m=>nomatch m),t⟩
 | cons x l ih =>
  refine bC fun G=>?_;refine eE2 (fun v vs'=>aA3 fun z1 rv r=>?_) rvs.inv;subst z1
  have t:nat? x (fun n=>(@Bool.rec (fun U=>Bool) false (@List.rec Vl (fun U=>Nat→Bool) (fun acc=>k (.ofNat acc)) (fun p U ih acc=>nat? p fun n=>(@Bool.rec (fun U=>Bool) false (ih (Nat.add acc n)) (Nat.ble n 1000))) l (Nat.add acc n)) (Nat.ble n 1000)))=true:=t
  refine eE1 (fun n=>aA2 fun z25q1 t=>?_) (bG t);obtain rfl:=z25q1
  obtain⟨le,t⟩:=ae t
  obtain⟨tk,rfl⟩:=rv.inv;next =>
  refine eE1 (fun xs=>aA3 fun e h1 h2=>?_) (ih r t)
  subst e
  apply G;refine⟨(n,tk) :: xs,rfl,fun p m=>?_,?_⟩
  ·rcases List.mem_cons.mp m with rfl | m
   ·exact bS le
   ·exact h1 p m
  ·simp only[List.map_cons,List.sum_cons]
   rw[← Nat.add_assoc];exact h2
theorem jl (xs:List (Nat × Tok))(j:Nat):j≤xs.length→preSum (numAt (xs.map fun p=>((p.1:Int),p.2)).toArray) j=(((xs.take j).map (·.1)).sum:Nat):=by
 induction j with
 | zero=>exact fun U=>by simp[preSum]
 | succ j ih =>
  intro h
  simp only[preSum]
  rw[ih (fS h (by simp +arith only))]
  have:xs[j]? = some xs[j]:=List.getElem?_eq_getElem (fS h (by simp +arith only))
  have e:xs.take (j+1)=xs.take j++[xs[j]]:=by rw[List.take_add_one,this];rfl
  have e2:numAt (xs.map fun p=>((p.1:Int),p.2)).toArray j=(xs[j].1:Int):=by simp[numAt,this]
  rw[e,e2]
  simp only[List.map_append,List.map_cons,List.map_nil,List.sum_append,List.sum_cons,List.sum_nil,Nat.add_zero,Int.natCast_add]
theorem sm (xs:List (Nat × Tok))(h:∀ p∈xs,p.1≤1000):(xs.map (·.1)).sum≤xs.length * 1000:=by
 induction xs with
 | nil=>simp
 | cons a r ih =>
  have:=h a (.head _)
  have:=ih fun p m=>h p (.tail _ m)
  simp only[List.map_cons,List.sum_cons,List.length_cons]
  omega
theorem Dj (hh:A.handled=none)(S:St W fs ι H s)(rvs:RVs W ι s.heap vs xs)(t:HZ xs H k=true):wpAny (model W.prog W.w) A (call (.builtin "sum") vs) (PX W fs noX ι s k) E s:=by
 refine bC fun G=>?_;refine eE1 (fun x=>aA2 fun z29q1 t=>?_) (aU (t:=fun x=>gq x fun r=>aL H r fun o=>(aW false (fun m=>Gn m fun s=>k (.int s) H) o)) t);obtain rfl:=z29q1
 refine eE1 (fun v=>aA2 fun z30q1 rv=>?_) (bk rvs);obtain rfl:=z30q1
 refine eE1 (fun i=>aA2 fun z31q1 t=>?_) (br t);obtain rfl:=z31q1
 refine eE1 (fun o=>aA2 fun go t=>?_) (af t)
 cases o<;>first | exact nf t | exact ns t | skip
 ·refine eE1 (fun p=>aA3 fun ep z33q2 z33r=>?_) (S.get rv go);obtain rfl:=z33q2;obtain⟨eq,ln,vs,n,g,rvs⟩:=z33r
  have len:=rvs.length
  simp only[Array.length_toList] at len
  refine eE1 (fun xs=>aA3 fun e h1 h2=>?_) (uH (acc:=0) (k:=fun s=>k (.int s) H) rvs t)
  have lx:xs.length=vs.size:=by rw[← Array.length_toList,e,List.length_map]
  have ev:vs=intItems (xs.map fun p=>((p.1:Int),p.2)).toArray:=by
   unfold intItems
   rw[← Array.toArray_toList (xs:=vs),e]
   simp
  have bound:∀ j,j≤xs.length→(((xs.take j).map (·.1)).sum:Nat)≤1000 * 1000:=fun j hj=>by
   have:=sm (xs.take j) fun p m=>h1 p (List.mem_of_mem_take m)
   have l2:(xs.take j).length≤1000:=by rw[List.length_take];omega
   have:=Nat.mul_le_mul_right 1000 l2
   omega
  apply G;refine sum_intList hh (ev▸aE g) (fun j hj=>?_) fun h' tk t' K=>?_
  ·have hj:j < xs.length:=by simpa using hj
   refine⟨?_,?_⟩
   ·have:xs[j]? = some xs[j]:=List.getElem?_eq_getElem hj
    have le:=h1 xs[j] (List.getElem_mem hj)
    have:numAt (xs.map fun p=>((p.1:Int),p.2)).toArray j=(xs[j].1:Int):=by simp[numAt,this]
    rw[this];unfold InLong;omega
   ·rw[jl xs (j+1) hj]
    have:=bound (j+1) hj
    unfold InLong;omega
  ·have:preSum (numAt (xs.map fun p=>((p.1:Int),p.2)).toArray) (xs.map fun p=>((p.1:Int),p.2)).toArray.size=((xs.map (·.1)).sum:Nat):=by
    have:=jl xs xs.length (Nat.le_refl _)
    rw[List.take_length] at this
    simpa using this
   rw[this]
   rw[Nat.zero_add] at h2
   exact⟨ι,H,_,S.keeps K,.of_keeps K,.int _ _,h2⟩
set_option tactic.hygienic true in
theorem vr (hh:A.handled=none)(S:St W fs ι H s)(rvs:RVs W ι s.heap vs xs)(t:tZ xs H k=true):wpAny (model W.prog W.w) A (call (.builtin "sorted") vs) (PX W fs noX ι s k) E s:=by
 refine eE1 (fun x=>aA2 fun z35q1 t=>?_) (aU (t:=fun x=>gq x fun r=>aL H r fun o=>(bO false (fun d=>@List.rec (Nat × Vl) (fun U=>Bool) (bM H (.list []) fun i h=>k (.ref i) h) (fun U U U=>false) d) o)) t);obtain rfl:=z35q1
 refine eE1 (fun v=>aA2 fun z36q1 rv=>?_) (bk rvs);obtain rfl:=z36q1
 refine eE1 (fun i=>aA2 fun z37q1 t=>?_) (br t);obtain rfl:=z37q1
 refine eE1 (fun o=>aA2 fun go t=>?_) (af t)
 cases o<;>first | exact nf t | exact ns t | skip
 rename_i l
 cases l with
 | cons _ _=>exact ft t
 | nil =>
  have t:bM H (.list []) (fun i h=>k (.ref i) h)=true:=t
  refine eE1 (fun p=>aA3 fun ep z39q2 z39r=>?_) (S.get rv go);obtain rfl:=z39q2;obtain⟨eq,ln,kvs,g,rk⟩:=z39r
  cases rk
  obtain⟨ep',hat⟩:=Heap.DictOf.dictAt g
  refine Calls.call_function_entry kind_sorted plain_sorted entry_sorted (args_sorted1 _) ?_
  unfold Builtin.«sorted»
  refine wpAny_bind (m:=checkCount "sorted" 1 1 _) (wpAny_pure ?_)
  refine wpAny_bind (kdu_collect (A:=A.in1) (kdl_dict (knd:=W.sk) (kvs:=[]) (ep:=ep') (S.fO ep)) hh hat (Nat.zero_le _) fun h' tk acc hk hacc=>?_)
  have ha:acc=#[]:=Array.eq_empty_of_size_eq_zero hacc.1
  subst ha
  refine wpAny_bind (wpAny_newList ?_ (Nat.zero_le _))
  have hoL:(h'.push (seqObj "list" ([]:List Value).toArray 0)).get? h'.objs.size=some (seqObj "list" ([]:List Value).toArray 0):=Heap.get?_push_size _ rfl
  refine wpAny_bind (wpAny_holding (wpAny_call_entry slot_list_sort ⟨_,hoL,rfl⟩ entry_list_sort (list_sort_tree hoL (vs:=[]) (ns:=[]) .nil (by decide) fun out ns' a1 a2 a3=>⟨_,rfl,?_⟩) (args_list_sort _)))
  have e2:ns'=[]:=a2.eq_nil
  subst e2
  have ho:out=#[]:=by
   obtain⟨l⟩:=out
   cases a1;rfl
  subst ho
  obtain⟨e,he⟩:=sortedHeap_at (h:=h'.push (seqObj "list" ([]:List Value).toArray 0)) (vs:=[]) (out:=#[]) (n:=0) hoL
  have K:∀ b o,s.heap.get? b=some o→(sortedHeap (h'.push (seqObj "list" ([]:List Value).toArray 0)) h'.objs.size [] #[]).get? b=some o:=fun b o g=>by
   have lt:=Heap.lt_size (hk b o g)
   rw[sortedHeap_old (Nat.ne_of_lt lt) (by rw[Heap.size_push];exact Nat.lt_succ_of_lt lt)]
   exact Heap.get?_push_of_some _ (hk b o g)
  refine wpAny_pure ⟨_,rfl,?_⟩
  have nn:s.heap.get? h'.objs.size=none:=by
   cases q:s.heap.get? h'.objs.size with
   | none=>rfl
   | some o=>exact absurd (Heap.lt_size (hk _ _ q)) (Nat.lt_irrefl _)
  exact eM S K (l:=[]) nn he .nil (by unfold mkL small;exact t)
theorem xq (S:St W fs ι H s)(rvs:RVs W ι s.heap vs xs)(t:xw xs H k=true):wpAny (model W.prog W.w) A (call (.type "tuple") vs) (PX W fs noX ι s k) E s:=by
 refine bC fun G=>?_;refine eE1 (fun x=>aA2 fun z43q1 t=>?_) (aU (t:=fun x=>items H x fun m=>mkT m H k) t);obtain rfl:=z43q1
 refine eE1 (fun v=>aA2 fun z44q1 rv=>?_) (bk rvs);obtain rfl:=z44q1
 rcases eB t with ⟨l,rfl,t1⟩| ⟨i,l,rfl,go,t1⟩
 ·obtain⟨_,_,_,rfl,g,ln,rvs,no⟩:=rv.inv;apply G;next =>
   obtain⟨_,t⟩:=aA t1
   exact call_tuple_same ⟨_,g,rfl,_,rfl⟩ ⟨ι,H,_,S,.refl,.tup g ln rvs no,t⟩
 ·refine eE1 (fun p=>aA3 fun ep z47q2 z47r=>?_) (S.get rv go);obtain rfl:=z47q2;obtain⟨eq,ln,vs,n,g,rvs⟩:=z47r
  have len:=rvs.length
  simp only[Array.length_toList] at len
  apply G;refine PySem.call_tuple_list (aE g) (fun h' K=>?_) (by unfold sizeLine;omega)
  have S2:=S.keeps K (tk:=s.toks) (dr:=s.drawn)
  have E2:Ext W noX ι s.heap ι h':=.of_keeps K
  have:=nP S2 (vs:=vs.toList) (rvs.ext E2) t1 (tk:=s.toks) (dr:=s.drawn) (n:=0)
  rw[Array.toArray_toList] at this
  exact PX.from (s:=s) E2 this
set_option tactic.hygienic true in
theorem Bg (hh:A.handled=none)(S:St W fs ι H s)(rvs:RVs W ι s.heap vs xs)(t:vZ xs H k=true):wpAny (model W.prog W.w) A (call (.type "list") vs) (PX W fs noX ι s k) E s:=by
 replace t:=jx (g:=fun x=>vZ [x] H k) t;revert t;refine eE1 fun x=>aA2 fun z48q1 t=>?_;obtain rfl:=z48q1
 refine eE1 (fun v=>aA2 fun z49q1 rv=>?_) (rvs.one);obtain rfl:=z49q1;next =>
  have nn:=aw (h:=s.heap) (Nat.le_refl _)
  cases x<;>first | exact nf t | exact ns t | skip
  ·obtain⟨_,_,_,rfl,g,ln,rvs,no⟩:=rv.inv;next =>
    have len:=rvs.length
    simp only[Array.length_toList] at len
    exact PySem.call_list_seq _ (T:="tuple") (.inr rfl) g rfl rfl (fun h' c' K g'=>eM S K nn g' rvs t) (by unfold sizeLine;omega)
  ·rename_i i
   refine eE1 (fun o=>aA2 fun go t=>?_) (af t)
   cases o<;>first | exact nf t | exact ns t | skip
   ·refine eE1 (fun p=>aA3 fun ep z52q2 z52r=>?_) (S.get rv go);obtain rfl:=z52q2;obtain⟨eq,ln,vs,n,g,rvs⟩:=z52r
    have len:=rvs.length
    simp only[Array.length_toList] at len
    exact PySem.call_list_seq _ (T:="list") (.inl rfl) g rfl rfl (fun h' c' K g'=>eM S K nn g' rvs t) (by unfold sizeLine;omega)
   ·rename_i l
    refine eE1 (fun p=>aA3 fun ep z53q2 z53r=>?_) (S.get rv go);obtain rfl:=z53q2;obtain⟨eq,ln,kvs,g,rk⟩:=z53r
    obtain⟨ep',hat⟩:=Heap.DictOf.dictAt g
    have len:=rk.length
    refine kdl_call (kdl_dict (knd:=W.sk) (kvs:=kvs) (ep:=ep') (S.fO ep)) hh hat (by unfold sizeLine;omega) fun h' tk acc c' K g' hacc=>?_
    refine eM S K nn g' ?_ t
    have key:∀ {kvs:List (Str × Value)}{l:List (Nat × Vl)}(vs:List Value),RK W ι s.heap kvs l→vs.length=kvs.length→(∀ (j:Nat)(v:Value),vs[j]? = some v→∃ k x,kvs[j]? = some (k,x)∧W.sk.is k v=true)→RVs W ι s.heap vs (l.map fun p=>Vl.str p.1):=by
     intro kvs l vs rk
     induction rk generalizing vs with
     | nil=>intro e _;cases vs with
      | nil=>exact .nil
      | cons _ _=>injection e
     | cons hs hv _ ih =>
      intro e h
      cases vs with
      | nil=>injection e
      | cons v r =>
       refine eE2 (fun k x=>aA2 fun e1 e2=>?_) (h 0 v rfl)
       replace e1:=Prod.mk.inj (ab e1);obtain⟨rfl,rfl⟩:=e1
       obtain⟨t,rfl⟩:=Value.isStrOf_shape e2
       exact .cons (.str t hs) (ih r (by simpa using e) fun j v e=>by simpa using h (j+1) v (by simpa using e))
    exact key acc.toList rk (by rw[Array.length_toList];exact hacc.1) fun j v e=>hacc.2 j v (by rw[← Array.getElem?_toList];exact e)
theorem Bm (S:St W fs ι H s)(rvs:RVs W ι s.heap vs xs)(t:Cu xs H k=true):wpAny (model W.prog W.w) A (call (.type "dict") vs) (PX W fs noX ι s k) E s:=by
 refine bC fun G=>?_;refine eE1 (fun x=>aA2 fun z57q1 t=>?_) (aU (t:=fun x=>gq x fun r=>aL H r fun o=>(bO false (fun d=>mkD d H k) o)) t);obtain rfl:=z57q1
 refine eE1 (fun v=>aA2 fun z58q1 rv=>?_) (bk rvs);obtain rfl:=z58q1
 refine eE1 (fun i=>aA2 fun z59q1 t=>?_) (br t);obtain rfl:=z59q1
 refine eE1 (fun o=>aA2 fun go t=>?_) (af t)
 cases o<;>first | exact nf t | exact ns t | skip
 refine eE1 (fun p=>aA3 fun ep z61q2 z61r=>?_) (S.get rv go);obtain rfl:=z61q2;obtain⟨eq,ln,kvs,g,rk⟩:=z61r
 have len:=rk.length
 apply G;refine PySem.kt_call_dict (S.fO ep) g (by unfold sizeLine;omega) fun h' g' sb=>?_
 have K:∀ b o,s.heap.get? b=some o→h'.get? b=some o:=fun b o e=>sb.extBut b o (Nat.ne_of_lt (Heap.lt_size e)) (aj _ _ _ _ e)
 exact gB S K (aw (Nat.le_refl _)) g' rk t
theorem bf (e:(@Bool.rec (fun U=>Bi) y x (Nat.beq b n)) xs H k=true):(b=n∧x xs H k=true)∨(b≠n∧y xs H k=true):=by
 by_cases h:b=n
 ·subst h
  rw[show Nat.beq b b=true from by simp] at e
  exact .inl ⟨rfl,e⟩
 ·rw[lA h] at e;exact .inr ⟨h,e⟩
theorem pF:iX W:=fun A fs d ι H s b v vs xs k E ar S hb rvs t=>by
 have hh:=ar.handled
 unfold builtin at t
 refine bC fun G=>?_;rcases bf t with ⟨rfl,t⟩| ⟨_,t⟩
 ·replace hb:=ab hb;subst hb;apply G;exact Fn S rvs t
 rcases bf t with ⟨rfl,t⟩| ⟨_,t⟩
 ·replace hb:=ab hb;subst hb;apply G;exact Dn S rvs t
 rcases bf t with ⟨rfl,t⟩| ⟨_,t⟩
 ·replace hb:=ab hb;subst hb;apply G;exact DF S rvs t
 rcases bf t with ⟨rfl,t⟩| ⟨_,t⟩
 ·replace hb:=ab hb;subst hb;apply G;exact FH S rvs t
 rcases bf t with ⟨rfl,t⟩| ⟨_,t⟩
 ·replace hb:=ab hb;subst hb;apply G;exact Dj hh S rvs t
 rcases bf t with ⟨rfl,t⟩| ⟨_,t⟩
 ·replace hb:=ab hb;subst hb;apply G;exact vr hh S rvs t
 rcases bf t with ⟨rfl,t⟩| ⟨_,t⟩
 ·replace hb:=ab hb;subst hb;apply G;exact xq S rvs t
 rcases bf t with ⟨rfl,t⟩| ⟨_,t⟩
 ·replace hb:=ab hb;subst hb;apply G;exact Bg hh S rvs t
 rcases bf t with ⟨rfl,t⟩| ⟨_,t⟩
 ·replace hb:=ab hb;subst hb;apply G;exact Bm S rvs t
 exact ft t
end
theorem eD:entryFor table "zip.__getattribute__" = some Builtin.«object.__getattribute__» :=
 entryFor_alias (id':="object.__getattribute__") (by rw[fastTable_eq_tree];kernel_rfl) (by decide +kernel) (by decide +kernel) (by rw[fastTable_eq_tree];kernel_rfl)
theorem iI:typeLookup (.type "zip") "__getattr__" = pure none:=by rw[typeLookup_type,builtinLookup_eq_fast];kernel_rfl
theorem lS:typeLookup (.type "zip") "keys" = pure none:=by rw[typeLookup_type,builtinLookup_eq_fast];kernel_rfl
theorem l6 {Q}(hx:s.heap.get? a=some { cls:=.type "zip",dict:=none,data:=.fields vs,slots:=#[] })(hmiss:typeLookup (.type "zip") name=pure none)(hname:(["__module__","__name__","__qualname__","__doc__","__annotations__"]:List Str).contains name=false)
  (h:Q .missing s):wpAny (model prog w) A (Builtin.ObjectAttr.find (.ref a) (.type "zip") name) Q E s:=by
 obtain⟨hp,g,d,tk,os⟩:=s
 have hT:(⟨hp,g,d,tk,os⟩:Shared).TypeIs (.ref a) "zip":=⟨_,hx,rfl⟩
 unfold Builtin.ObjectAttr.find
 repeat (any_goals (first | assumption | wp_step))
 simp only[hname,Bool.false_eq_true,if_false]
 repeat (any_goals (first | assumption | wp_step))
theorem cW (a:Addr)(vs:Array Value)(name:Str)(u:Tok)(hmiss:typeLookup (.type "zip") name=pure none)(hname:(["__module__","__name__","__qualname__","__doc__","__annotations__"]:List Str).contains name=false)(hsz:name.length+100≤sizeLine:=by first | decide +kernel | omega | skip) :
  Meets (Builtin.«object.__getattribute__» ⟨[.ref a,.str name u],[]⟩) (fun A R s=>s.heap.get? a=some { cls:=.type "zip",dict:=none,data:=.fields vs,slots:=#[] }∧raisesAttr (.ref a) name A R s):=
 Meets.of_wp fun prog w A R s hs=>by
  obtain⟨hx,hs⟩:=hs
  have hT:s.TypeIs (.ref a) "zip":=⟨_,hx,rfl⟩
  refine wpAny_bind (wpAny_of_eq (a:=(.ref a,[.str name u])) rfl (wpAny_bind (wpAny_of_eq (a:=name) rfl (wpAny_bind (wpAny_typeOf hT (wpAny_bind (l6 hx hmiss hname ?_)))))))
  refine wpAny_ite_false (by decide +kernel) (wpAny_ite_false (by decide +kernel) ?_)
  refine wpAny_bind ?_
  repeat (any_goals (first | assumption | wp_step))
  exact wpAny_raiseAttrError hs.1 hs.2 (attrMsg_fits (by decide +kernel) hsz)
theorem gY
  (hx:s.heap.get? a=some { cls:=.type "zip",dict:=none,data:=.fields vs,slots:=#[] })(hA:A.handled=none)
  (h:∀ h' tk,(∀ b o,s.heap.get? b=some o→h'.get? b=some o)→Q none { s with heap:=h',toks:=tk }) :
  wpAny (model prog w) A (getAttr? (.ref a) "keys") Q E s:=by
 obtain⟨hp,g,d,tk,os⟩:=s
 have hT:∀ tk',(⟨hp,g,d,tk',os⟩:Shared).TypeIs (.ref a) "zip":=fun U=>⟨_,hx,rfl⟩
 have f1:=sub_AttributeError
 have f3:=F.slot_zip_getattribute.lookup
 have f4:=F.slot_zip_getattribute.bind (.ref a)
 have f5:=iI
 unfold getAttr? getAttrBy? getAttrBy
 repeat (any_goals (first | assumption | exact hT _ | ((with_reducible show wpAny _ _ (call (Value.builtin "zip.__getattribute__") _ _) _ _ _);refine call_meets F.slot_zip_getattribute (hT _) eD (F.args_zip_getattribute_2 _ _) (cW a vs "keys" _ lS (by decide +kernel) (by decide +kernel)) ⟨hx,hA,fun h' tk' e hx'=>?_⟩)| wp_step))
 refine eE2 (fun t' u' he=>?_) (hx'.there)
 show wpAny _ _ (getattributeRaised _ _ _ _ _ _ _) _ _ _
 unfold getattributeRaised
 repeat (any_goals (first | assumption | wp_step))
 exact h _ _ hx'.of.keeps
theorem hB (h:Q (s.heap.get? a) s):wpAny M A (loadIfAlive a) Q E s:=fun Γ p hΓ=>by
 unfold loadIfAlive
 rw[Sem.wp_loadIfAlive]
 exact wpAny_pure h Γ p hΓ
section
variable {prog:Program}{w:World}{A:Around}{E:Value→Shared→Prop}{s:Shared}
theorem uM {z TI TO i1 l1 T:Addr}{u2:Value}{k1:Nat}{xs:Array Value}{oT:Obj}{Q:Fin→Shared→Prop}(hh:A.handled=none)(ne1:i1≠z)(ne2:l1≠z)
  (hz:IsZip s.heap z TI TO (rawInt T))(hTI:IsPair s.heap TI (.ref i1) u2)(hT:s.heap.get? T=some oT)(neI:TI≠z)
  (h1:ay s.heap i1 l1 k1 xs)(hend:xs[k1]? = none)
  (hE:∀ h' e,(∀ c o,c≠z→c≠i1→s.heap.get? c=some o→h'.get? c=some o)→(∃ o,h'.get? e=some o∧o.cls = .type "StopIteration")→E (.ref e) { s with heap:=h' }) :
  wpAny (model prog w) A (Builtin.«zip.__next__» ⟨[.ref z],[]⟩) Q E s:=by
 show wpAny _ _ (field (.ref z) 2 >>= _) _ _ _
 refine wpAny_bind (wpAny_field hz rfl (x:=.bool false) rfl ?_)
 show wpAny _ _ (field (.ref z) 3 >>= _) _ _ _
 refine wpAny_bind (wpAny_field hz rfl (x:=.ref TI) rfl ?_)
 refine wpAny_bind (wpAny_seqItems hTI rfl ?_)
 show wpAny _ _ (Builtin.SmallTypes.ownedTupleIsFree (.ref z) >>= _) _ _ _
 refine wpAny_bind ?_
 unfold Builtin.SmallTypes.ownedTupleIsFree
 refine wpAny_bind (wpAny_field hz rfl (x:=rawInt T) rfl ?_)
 show wpAny _ _ (loadIfAlive ((T:Int).toNat) >>= _) _ _ _
 refine wpAny_bind (hB ?_)
 rw[Int.toNat_natCast,hT]
 simp only[Option.isNone_some,Bool.false_eq_true,if_false]
 refine wpAny_bind (wpAny_field hz rfl (x:=.bool false) rfl ?_)
 rw[if_pos (by decide)]
 refine wpAny_bind (wpAny_setField_rec hz (by simp) fun h₁ hz₁ hs₁=>?_)
 refine wpAny_pure ?_
 simp only[Bool.false_eq_true,if_false]
 refine wpAny_bind ?_
 show wpAny _ _ (forIn (#[Value.ref i1,u2]:Array Value) _ _) _ _ _
 rw[← Array.forIn_toList]
 simp only[List.forIn_cons]
 refine wpAny_bind (wpAny_bind (wpAny_holding ?_))
 show wpAny _ _ (Builtin.SmallTypes.nextOf (.ref i1) >>= _) _ _ _
 refine wpAny_bind (dB hh (h1.extBut hs₁.extBut ne1 ne2) hend fun h₂ e hs₂ he=>?_)
 exact hE h₂ e (fun c o c1 c2 x=>hs₂ _ _ c2 (hs₁.extBut _ _ c1 x)) he
theorem er {z TI TO i1 l1 T:Addr}{u2:Value}{k1:Nat}{xs:Array Value}{oT:Obj}{Q:Option Value→Shared→Prop}(hh:A.handled=none)(ne1:i1≠z)(ne2:l1≠z)
  (hz:IsZip s.heap z TI TO (rawInt T))(hTI:IsPair s.heap TI (.ref i1) u2)(hT:s.heap.get? T=some oT)(neI:TI≠z)
  (h1:ay s.heap i1 l1 k1 xs)(hend:xs[k1]? = none)
  (hQ:∀ h',(∀ c o,c≠z→c≠i1→s.heap.get? c=some o→h'.get? c=some o)→Q none { s with heap:=h' }):wpAny (model prog w) A (pyNext (.ref z)) Q E s:=by
 have hTy:s.TypeIs (.ref z) "zip":=⟨_,hz,rfl⟩
 unfold pyNext
 refine wpAny_bind (wpAny_attempt (wpAny_callSpecial?_slot (name:=Str.ofString "__next__") hTy F.slot_zip_next
  (wpAny_call_entry F.slot_zip_next hTy F.entry_zip_next (uM hh ne1 ne2 hz hTI hT neI h1 hend fun h' e hk he=>?_) (F.args_zip_next_1 _))))
 revert he;refine eE1 fun o=>aA2 fun ho hc=>?_
 refine wpAny_bind (wpAny_isInstance (T:="StopIteration") (b:=true) ⟨o,ho,hc⟩ isSubtype_stop ?_)
 exact wpAny_pure (hQ _ hk)
end
theorem rL:typeLookup (.type "zip") "__len__" = pure none:=by rw[typeLookup_type,builtinLookup_eq_fast];kernel_rfl
theorem oD:typeLookup (.type "zip") "__length_hint__" = pure none:=by rw[typeLookup_type,builtinLookup_eq_fast];kernel_rfl
structure mr (h:Heap)(z TI TO i1 i2 l1 l2:Addr)(xs ys:Array Value)(a b:Value):Prop where
 apart:ZipApart z TI TO i1 i2 l1 l2
 z:IsZip h z TI TO .none
 ti:IsPair h TI (.ref i1) (.ref i2)
 to:IsPair h TO a b
 it1:ay h i1 l1 0 xs
 it2:ay h i2 l2 0 ys
theorem mr.ext {h h':Heap}{z TI TO i1 i2 l1 l2:Addr}{xs ys:Array Value}{a b:Value}(x:mr h z TI TO i1 i2 l1 l2 xs ys a b){c:Addr}(hs:Heap.ExtBut c h h')(n:h.get? c=none):mr h' z TI TO i1 i2 l1 l2 xs ys a b:=by
 have ne:∀ {d o},h.get? d=some o→d≠c:=fun g e=>by rw[e,n] at g;exact zns g
 have go:∀ {d o},h.get? d=some o→h'.get? d=some o:=fun g=>hs _ _ (ne g) g
 exact⟨x.apart,go x.z,go x.ti,go x.to,x.it1.mv (fun o g=>go g) (fun o g=>go g),x.it2.mv (fun o g=>go g) (fun o g=>go g)⟩
section
variable {prog:Program}{w:World}{A:Around}{E:Value→Shared→Prop}{s:Shared}
theorem um {z TI TO i1 i2 l1 l2:Addr}{xs ys:Array Value}{a b x y:Value}{Q:Value→Shared→Prop}(hh:A.handled=none)(Z:mr s.heap z TI TO i1 i2 l1 l2 xs ys a b)(hx:xs[0]? = some x)(hx1:xs[1]? = none)(hy:ys[0]? = some y)
  (hQ:∀ h' tk T c,(∀ b o,b≠z→b≠TO→b≠i1→b≠i2→s.heap.get? b=some o→h'.get? b=some o)→s.heap.get? T=none→T≠s.heap.objs.size→IsL h' s.heap.objs.size #[.ref T] c→IsPair h' T x y→Q (.ref s.heap.objs.size) { s with heap:=h',toks:=tk }) :
  wpAny (model prog w) A (call (.type "list") [.ref z]) Q E s:=by
 refine callType_codes (Q₁:=fun obj s₁=>obj = .ref s.heap.objs.size∧s₁ = { s with heap:=s.heap.push { cls:=.type "list",data:=.seq #[] } }) PySem.F.called_list (PySem.F.typeCall_list_1 _) PySem.F.entry_list_init
  (code_list_new _ ⟨rfl,rfl⟩) fun obj s₁ h₁=>?_
 obtain⟨rfl,rfl⟩:=h₁
 have hS:(s.heap.push { cls:=.type "list",data:=.seq #[] }).get? s.heap.objs.size=some { cls:=.type "list",data:=.seq #[] }:=Heap.get?_push_size _ rfl
 refine⟨⟨_,hS,rfl⟩,PySem.F.args_list_init_2 _ _,?_⟩
 show wpAny _ _ (do let old ← Builtin.List.listItems (.ref s.heap.objs.size);Builtin.List.listUpdate (.ref s.heap.objs.size) (fun U=>#[]);letGo old.toList.reverse;Builtin.List.listExtendWith (.ref s.heap.objs.size) (.ref z) .none) _ _ _
 refine wpAny_bind ?_
 unfold Builtin.List.listItems
 refine wpAny_bind (wpAny_seqItems hS rfl (wpAny_pure ?_))
 show wpAny _ _ (updateSeq s.heap.objs.size (fun U=>#[]) >>= fun U=>letGo (#[]:Array Value).toList.reverse >>= fun U=>Builtin.List.listExtendWith (.ref s.heap.objs.size) (.ref z) .none) _ _ _
 refine wpAny_bind (wpAny_updateSeq hS rfl ?_)
 have hS₂:=Heap.get?_update_self (Obj.mapSeq (fun U=>(#[]:Array Value))) hS rfl
 refine wpAny_bind (wpAny_letGo ?_)
 have n0:s.heap.get? s.heap.objs.size=none:=aw (Nat.le_refl _)
 have K1:∀ b o,b≠s.heap.objs.size→s.heap.get? b=some o→((s.heap.push { cls:=.type "list",data:=.seq #[] }).update s.heap.objs.size (Obj.mapSeq (fun U=>(#[]:Array Value)))).get? b=some o:=fun b o hb e =>
  (Heap.get?_update_other _ _ (Ne.symm hb)).trans (aj _ _ _ _ e)
 have Z1:=Z.ext K1 n0
 generalize hH1:(s.heap.push { cls:=.type "list",data:=.seq #[] }).update s.heap.objs.size (Obj.mapSeq (fun U=>(#[]:Array Value)))=H1 at *
 have sz1:H1.objs.size=s.heap.objs.size+1:=by rw[← hH1,Heap.size_update,Heap.size_push]
 have zlt:z < s.heap.objs.size:=Heap.lt_size Z.z
 have Sz:s.heap.objs.size≠z:=Nat.ne_of_gt zlt
 have STO:s.heap.objs.size≠TO:=Nat.ne_of_gt (Heap.lt_size Z.to)
 have Si1:s.heap.objs.size≠i1:=by obtain⟨o,g⟩:=Z.it1.at;exact Nat.ne_of_gt (Heap.lt_size g)
 have Si2:s.heap.objs.size≠i2:=by obtain⟨o,g⟩:=Z.it2.at;exact Nat.ne_of_gt (Heap.lt_size g)
 have hT1:∀ {h:Heap}{tk:Nat}{f0:Value},IsZip h z TI TO f0→Shared.TypeIs ⟨h,s.gens,s.drawn,tk,s.os⟩ (.ref z) "zip":=fun g=>⟨_,g,rfl⟩
 unfold Builtin.List.listExtendWith
 refine wpAny_bind (wpAny_typeOf (hT1 Z1.z) ?_)
 have h1:Builtin.List.listSameRef (.ref s.heap.objs.size) (.ref z)=false:=by simp[Builtin.List.listSameRef,Sz]
 have h2:(Value.type "zip" == Value.type "list")=false:=by decide
 have h3:(Value.type "zip" == Value.type "tuple")=false:=by decide
 simp only[h1,h2,h3,Bool.or_false,Bool.false_eq_true,if_false]
 refine wpAny_bind (wpAny_pyIter_zip Z1.z ?_)
 refine wpAny_bind (wpAny_holding ?_)
 unfold Builtin.List.listLengthHint
 refine wpAny_bind (wpAny_specialOf (hT1 Z1.z) rL ?_)
 show wpAny _ _ (specialOf (Value.ref z) (Str.ofString "__length_hint__") >>= _) _ _ _
 refine wpAny_bind (wpAny_specialOf (hT1 Z1.z) oD ?_)
 refine wpAny_pure ?_
 show wpAny _ _ (rule "list.extend.makes-room" >>= fun U=>Builtin.List.listTouch (.ref s.heap.objs.size) >>= fun U =>
  again (.builtin "list.extend.loop" ⟨[.ref s.heap.objs.size,.ref z,.none],[]⟩)) _ _ _
 refine wpAny_bind (wpAny_rule ?_)
 refine wpAny_bind ?_
 show wpAny _ _ (updateSeq s.heap.objs.size (·.push .none) >>= fun U=>updateSeq s.heap.objs.size (·.pop)) _ _ _
 refine wpAny_bind (wpAny_updateSeq hS₂ rfl ?_)
 have hS₃:=Heap.get?_update_self (Obj.mapSeq (·.push Value.none)) hS₂ rfl
 refine wpAny_updateSeq (hz:=by seq_fits) hS₃ rfl ?_
 have hS₄:=Heap.get?_update_self (Obj.mapSeq (·.pop)) hS₃ rfl
 have K2:∀ b o,b≠s.heap.objs.size→s.heap.get? b=some o→((H1.update s.heap.objs.size (Obj.mapSeq (·.push Value.none))).update s.heap.objs.size (Obj.mapSeq (·.pop))).get? b=some o:=fun b o hb e =>
  (Heap.get?_update_other _ _ (Ne.symm hb)).trans ((Heap.get?_update_other _ _ (Ne.symm hb)).trans (K1 b o hb e))
 have Z2:=Z.ext K2 n0
 generalize hH2:(H1.update s.heap.objs.size (Obj.mapSeq (·.push Value.none))).update s.heap.objs.size (Obj.mapSeq (·.pop))=H2 at *
 have sz2:H2.objs.size=s.heap.objs.size+1:=by rw[← hH2,Heap.size_update,Heap.size_update,sz1]
 have gS2:∃ c,IsL H2 s.heap.objs.size #[] c:=⟨_,hS₄⟩
 obtain⟨c2,gS2⟩:=gS2
 refine wpAny_pure ⟨plainId_quiet PySem.F.plain_extend_loop _,codeAny_builtin PySem.F.entry_extend_loop ?_⟩
 rw[Around.under_plainId PySem.F.plain_extend_loop _]
 show wpAny _ _ (pyNext (.ref z) >>= _) _ _ _
 refine wpAny_bind (fk (s:=⟨H2,s.gens,s.drawn,s.toks,s.os⟩) Z2.apart Z2.z Z2.ti Z2.to Z2.it1 Z2.it2 hx hy fun h3 gz gTO si1 si2 gT hsz hk=>?_)
 replace hsz:h3.objs.size=s.heap.objs.size+2:=by rw[hsz];show H2.objs.size+1=_;rw[sz2]
 replace gT:IsPair h3 (s.heap.objs.size+1) x y:=by rw[← sz2];exact gT
 replace gz:IsZip h3 z TI TO (rawInt (s.heap.objs.size+1:Nat)):=by rw[← sz2];exact gz
 have gS3:IsL h3 s.heap.objs.size #[] c2:=hk _ _ Sz STO Si1 Si2 gS2
 show wpAny _ _ (updateSeq s.heap.objs.size (·.push (.ref H2.objs.size)) >>= _) _ _ _
 rw[sz2]
 refine wpAny_bind ?_
 refine wpAny_updateSeq (s:=⟨h3,s.gens,s.drawn,s.toks,s.os⟩) gS3 rfl (wpAny_pure ⟨plainId_quiet PySem.F.plain_extend_loop _,?_⟩)
 refine bC fun G=>?_;obtain⟨⟨c4,gS4⟩,sb⟩:=ba gS3 (fun xs=>xs.push (.ref (s.heap.objs.size+1)))
 have nST:s.heap.objs.size+1≠s.heap.objs.size:=by omega
 have up:∀ {b o},b≠s.heap.objs.size→h3.get? b=some o→(h3.update s.heap.objs.size (Obj.mapSeq fun xs=>xs.push (.ref (s.heap.objs.size+1)))).get? b=some o:=fun hb g=>sb.extBut _ _ hb g
 have Sl1:l1≠s.heap.objs.size:=by
  cases Z.it1 with
  | list _ g=>revert g;refine eE1 fun o=>aA2 fun g U=>?_;exact Nat.ne_of_lt (Heap.lt_size g)
  | tup _ g=>revert g;refine eE1 fun o=>aA2 fun g U=>?_;exact Nat.ne_of_lt (Heap.lt_size g)
 apply G;refine codeAny_builtin PySem.F.entry_extend_loop ?_
 rw[Around.under_plainId PySem.F.plain_extend_loop _]
 show wpAny _ _ (pyNext (.ref z) >>= _) _ _ _
 have gTI3:IsPair h3 TI (.ref i1) (.ref i2):=hk _ _ Z.apart.TIz Z.apart.TITO Z.apart.TIi1 Z.apart.TIi2 Z2.ti
 have STI:TI≠s.heap.objs.size:=Nat.ne_of_lt (Heap.lt_size Z.ti)
 refine wpAny_bind (er (s:=⟨h3.update s.heap.objs.size (Obj.mapSeq fun xs=>xs.push (.ref (s.heap.objs.size+1))),s.gens,s.drawn,s.toks,s.os⟩) hh Z.apart.i1z Z.apart.l1z (up Sz.symm gz) (up STI gTI3) (up nST gT) Z.apart.TIz
  (si1.extBut sb.extBut Si1.symm Sl1) hx1 fun h5 hk5=>?_)
 refine wpAny_pure ?_
 refine⟨rfl,hQ h5 _ (s.heap.objs.size+1) c4 (fun b o b1 b2 b3 b4 g=>?_) (aw (Nat.le_succ _)) nST ?_ ?_⟩
 ·have nb:b≠s.heap.objs.size:=Nat.ne_of_lt (Heap.lt_size g)
  exact hk5 _ _ b1 b3 (up nb (hk _ _ b1 b2 b3 b4 (K2 _ _ nb g)))
 ·exact hk5 _ _ Sz Si1 gS4
 ·have lz:∀ {c o},s.heap.get? c=some o→s.heap.objs.size+1≠c:=fun g=>Nat.ne_of_gt (Nat.lt_succ_of_lt (Heap.lt_size g))
  obtain⟨o1,g1⟩:=Z.it1.at
  exact hk5 _ _ (lz Z.z) (lz g1) (up nST gT)
end
theorem dH:entryFor table "dict.update.loop" = some Builtin.«dict.update.loop»:=entryFor_of_fast (by kernel_rfl)
theorem bw:plainId "dict.update.loop" = true:=by decide +kernel
section
variable {prog:Program}{w:World}{K:Type} [DecidableEq K]{knd:KeyKind prog w K}{A:Around}{E:Value→Shared→Prop}{s:Shared}
theorem pb {z TI TO i1 i2 l1 l2:Addr}{xs ys:Array Value}{a b:Value}{Q:Value→Shared→Prop}(hh:A.handled=none)(Z:mr s.heap z TI TO i1 i2 l1 l2 xs ys a b)
  (hc:xs[0]? = none∨∃ k x y,xs[0]? = some x∧xs[1]? = none∧ys[0]? = some y∧knd.is k x=true)
  (hQ:∀ h' tk kvs,(∀ b o,b≠z→b≠TO→b≠i1→b≠i2→s.heap.get? b=some o→h'.get? b=some o)→h'.DictOf knd s.heap.objs.size kvs →
   ((xs[0]? = none∧kvs=[])∨∃ k x y,xs[0]? = some x∧ys[0]? = some y∧knd.is k x=true∧kvs=[(k,y)])→Q (.ref s.heap.objs.size) { s with heap:=h',toks:=tk }) :
  wpAny (model prog w) A (call (.type "dict") [.ref z]) Q E s:=by
 refine callType_codes (Q₁:=fun obj s₁=>obj = .ref s.heap.objs.size∧s₁ = { s with heap:=s.heap.push { cls:=.type "dict",data:=.dict #[] } }) PySem.F.kt_called_dict (PySem.F.kt_typeCall_dict_1 _) PySem.F.entry_dict_init (kt_code_dict_new _ ⟨rfl,rfl⟩) ?_
 rintro obj s₁ ⟨rfl,rfl⟩
 have bM:(s.heap.push { cls:=.type "dict",data:=.dict #[] }).DictOf knd s.heap.objs.size []:=Heap.DictOf.new s.heap
 have n0:s.heap.get? s.heap.objs.size=none:=aw (Nat.le_refl _)
 have Sz:s.heap.objs.size≠z:=Nat.ne_of_gt (Heap.lt_size Z.z)
 have STO:s.heap.objs.size≠TO:=Nat.ne_of_gt (Heap.lt_size Z.to)
 have Si1:s.heap.objs.size≠i1:=by obtain⟨o,g⟩:=Z.it1.at;exact Nat.ne_of_gt (Heap.lt_size g)
 have Si2:s.heap.objs.size≠i2:=by obtain⟨o,g⟩:=Z.it2.at;exact Nat.ne_of_gt (Heap.lt_size g)
 have Sl1:l1≠s.heap.objs.size:=by
  cases Z.it1 with
  | list _ g=>revert g;refine eE1 fun o=>aA2 fun g U=>?_;exact Nat.ne_of_lt (Heap.lt_size g)
  | tup _ g=>revert g;refine eE1 fun o=>aA2 fun g U=>?_;exact Nat.ne_of_lt (Heap.lt_size g)
 have STI:TI≠s.heap.objs.size:=Nat.ne_of_lt (Heap.lt_size Z.ti)
 have Z1:=Z.ext (h':=s.heap.push { cls:=.type "dict",data:=.dict #[] }) (c:=s.heap.objs.size) (fun b o U e=>aj _ _ _ _ e) n0
 have hT1:∀ {h:Heap}{tk:Nat}{f0:Value},IsZip h z TI TO f0→Shared.TypeIs ⟨h,s.gens,s.drawn,tk,s.os⟩ (.ref z) "zip":=fun g=>⟨_,g,rfl⟩
 refine⟨bM.typeIs,PySem.F.args_dict_init_2 _ _,?_⟩
 unfold Builtin.«dict.__init__»
 refine wpAny_bind ?_
 unfold Builtin.Dict.selfAndRest
 refine wpAny_bind (wpAny_notOrdered_dict bM.typeIs ?_)
 show wpAny _ _ (pure (s.heap.objs.size,[Value.ref z])) _ _ _
 refine wpAny_pure ?_
 show wpAny _ _ (Builtin.Dict.updateFrom "dict.__init__" s.heap.objs.size (.ref z) [] .none) _ _ _
 unfold Builtin.Dict.updateFrom
 refine wpAny_bind (wpAny_typeOf (hT1 Z1.z) ?_)
 rw[if_pos (by decide)]
 refine wpAny_bind (gY (s:=⟨s.heap.push { cls:=.type "dict",data:=.dict #[] },s.gens,s.drawn,s.toks,s.os⟩) Z1.z hh fun h1 tk1 K1=>?_)
 simp only[Option.isNone_none,if_true]
 refine wpAny_bind (wpAny_rule ?_)
 have Z2:=Z1.ext (h':=h1) (c:=h1.objs.size) (fun b o U e=>K1 _ _ e) (by
  cases q:(s.heap.push { cls:=.type "dict",data:=.dict #[] }).get? h1.objs.size with
  | none=>rfl
  | some o=>exact absurd (Heap.lt_size (K1 _ _ q)) (Nat.lt_irrefl _))
 have hd1:h1.DictOf knd s.heap.objs.size []:=bM.at (K1 _)
 refine wpAny_bind (wpAny_pyIter_zip (s:=⟨h1,s.gens,s.drawn,tk1,s.os⟩) Z2.z ?_)
 refine wpAny_pure ⟨plainId_quiet bw _,codeAny_builtin dH ?_⟩
 rw[Around.under_plainId bw _]
 show wpAny _ _ (pyNext (.ref z) >>= _) _ _ _
 have gt1:∀ {c o},s.heap.get? c=some o→c≠s.heap.objs.size:=fun g=>Nat.ne_of_lt (Heap.lt_size g)
 revert hc;refine oO (fun e0=>?_) (eE3 fun k x y=>aA4 fun hx hx1 hy hk=>?_)
 ·refine wpAny_bind (eU (s:=⟨h1,s.gens,s.drawn,tk1,s.os⟩) hh Z2.apart Z2.z Z2.ti Z2.to Z2.it1 Z2.it2 (.inl e0) fun h2 K2 U=>?_)
  show wpAny _ _ (Builtin.Dict.addKeywords s.heap.objs.size [] >>= _) _ _ _
  refine wpAny_bind (wpAny_pure (wpAny_pure ⟨rfl,hQ h2 _ [] (fun b o b1 b2 b3 b4 g=>K2 _ _ b1 b2 b3 b4 (K1 _ _ (aj _ _ _ _ g))) ?_ (.inl ⟨e0,rfl⟩)⟩))
  revert hd1;refine eE3 fun o es ep=>aA2 fun g r=>?_
  exact⟨o,es,ep,K2 _ _ Sz STO Si1 Si2 g,r⟩
 ·refine wpAny_bind (fk (s:=⟨h1,s.gens,s.drawn,tk1,s.os⟩) Z2.apart Z2.z Z2.ti Z2.to Z2.it1 Z2.it2 hx hy fun h3 gz gTO si1 si2 gT hsz hk3=>?_)
  generalize hTn:(⟨h1,s.gens,s.drawn,tk1,s.os⟩:Shared).heap.objs.size=T at *
  have hd3:h3.DictOf knd s.heap.objs.size []:=by
   revert hd1;refine eE3 fun o es ep=>aA2 fun g r=>?_
   exact⟨o,es,ep,hk3 _ _ Sz STO Si1 Si2 g,r⟩
  have nT:s.heap.get? T=none:=by
   cases q:s.heap.get? T with
   | none=>rfl
   | some o=>exact absurd (Heap.lt_size (K1 _ _ (aj _ _ _ _ q))) (by rw[← hTn];exact Nat.lt_irrefl _)
  have nTS:T≠s.heap.objs.size:=fun e=>by
   have:=Heap.lt_size (K1 _ _ (Heap.get?_push_size s.heap (o:={ cls:=.type "dict",data:=.dict #[] }) rfl))
   rw[← e,← hTn] at this;exact Nat.lt_irrefl _ this
  refine wpAny_bind (wpAny_holding (wpAny_bind (wpAny_tryCatch ?_)))
  unfold Builtin.Dict.pairItems
  refine wpAny_bind (wpAny_typeOf (T:="tuple") ⟨_,gT,rfl⟩ ?_)
  rw[if_pos (by decide)]
  refine wpAny_bind (wpAny_seqItems gT rfl (wpAny_pure ?_))
  refine wpAny_holding (wpAny_dictSet_pairs hk hd3 (fun h4 hd4 sb4=>?_) (Nat.zero_le _))
  refine wpAny_pure ⟨plainId_quiet bw _,codeAny_builtin dH ?_⟩
  rw[Around.under_plainId bw _]
  show wpAny _ _ (pyNext (.ref z) >>= _) _ _ _
  have up:∀ {b o},b≠s.heap.objs.size→h3.get? b=some o→h4.get? b=some o:=fun hb g=>sb4.extBut _ _ hb g
  have gTI3:IsPair h3 TI (.ref i1) (.ref i2):=hk3 _ _ Z.apart.TIz Z.apart.TITO Z.apart.TIi1 Z.apart.TIi2 Z2.ti
  refine wpAny_bind (er (s:=⟨h4,s.gens,s.drawn,_,s.os⟩) hh Z.apart.i1z Z.apart.l1z (up Sz.symm gz) (up STI gTI3) (up nTS gT) Z.apart.TIz (si1.extBut sb4.extBut Si1.symm Sl1) hx1 fun h5 hk5=>?_)
  show wpAny _ _ (Builtin.Dict.addKeywords s.heap.objs.size [] >>= _) _ _ _
  refine wpAny_bind (wpAny_pure (wpAny_pure ⟨rfl,hQ h5 _ [(k,y)] (fun b o b1 b2 b3 b4 g=>?_) ?_ (.inr ⟨k,x,y,hx,hy,hk,rfl⟩)⟩))
  ·exact hk5 _ _ b1 b3 (up (gt1 g) (hk3 _ _ b1 b2 b3 b4 (K1 _ _ (aj _ _ _ _ g))))
  ·revert hd4;refine eE3 fun o es ep=>aA2 fun g r=>?_
   exact⟨o,es,ep,hk5 _ _ Sz Si1 g,r⟩
end
section
variable {W:Wd}{sc:Sc}{fs:List Env}{ι:Io}{H:Hp}{s:Shared}
theorem mG (S:St W fs ι H s)(rv:RV W ι s.heap v y)(t:items H y k=true):∃ l b a its,v = .ref a∧dG b s.heap a its∧RVs W ι s.heap its.toList l∧k l=true:=by
 rcases eB t with ⟨l,rfl,t1⟩| ⟨i,l,rfl,go,t1⟩
 ·refine eE3 (fun U U U=>aA5 fun z1q3 g ln rvs no=>?_) (rv.inv);obtain rfl:=z1q3;next=>exact⟨l,false,_,_,rfl,⟨_,g,rfl,_,rfl⟩,rvs,t1⟩
 ·refine eE1 (fun p=>aA3 fun ep z2q2 z2r=>?_) (S.get rv go);obtain rfl:=z2q2;obtain⟨eq,ln,vs,n,g,rvs⟩:=z2r
  exact⟨l,true,_,_,rfl,⟨_,g,rfl,_,rfl⟩,rvs,t1⟩
theorem jU (h:Here W sc r d A fs env f ι H s)(hn:sc.names.lookup n=some .globalImplicit)(hg:nsIn W.K mainGlobals n=some none)(hb:nsIn W.K builtinsNs n=some (some (.type T)))(hd:(n == ("__debug__" : Str))=false)
  (he:eval (.Call (.Name n p) [ex] [] pos) env=(do callWith pos (← eval (.Name n p) env) [] (backTo pos (starEach [ex] env)) (backToKw pos (keywordEach [] env))))
  (hs:starEach [ex] env=(false,eval ex env) :: starEach [] env)(hp:(backTo pos (starEach [ex] env)).any (·.1)=false)
  (hv:wpAny (model W.prog W.w) A (eval ex env) (fun v s1=>wpAny (model W.prog W.w) A (call (.type T) [v]) Q E s1) E s):wpAny (model W.prog W.w) A (eval (.Call (.Name n p) [ex] [] pos) env) Q E s:=by
 rw[he]
 refine wpAny_bind (wpAny_Name ?_ hd)
 rw[loadName_read h.eo.kind ((h.kindOf n).trans hn)]
 unfold loadGlobal
 rw[h.eo.globals,h.eo.builtins]
 refine wpAny_bind ((looks_nsIn h.st.ground hg).here (wpAny_bind ((looks_nsIn h.st.ground hb).here (wpAny_pure ?_))))
 refine PySem.callWith_type hp ?_
 have base:wpAny (model W.prog W.w) A (spliced (backTo pos (starEach [ex] env))) (fun vs s'=>∃ v,vs=[v]∧wpAny (model W.prog W.w) A (call (.type T) [v]) Q E s') E s:=spliced_more (wpAny_mono hv (fun v s1 z=>spliced_none ⟨v,rfl,z⟩) fun U U z=>z) hs
 rw[hs] at base ⊢
 exact Calls.evalArgs_plain (wpAny_mono base (fun vs s' z=>by revert z;refine eE1 fun v=>aA2 fun e z=>?_;subst e;exact z) fun U U z=>z)
theorem vh {n l1 l2:Nat}(h1:l1 < n)(h2:l2 < n):ZipApart (n+4) (n+2) (n+3) n (n+1) l1 l2:=by
 constructor<;>(show @Ne Nat _ _)<;>omega
theorem dG.lt (x:dG b h a its):a < h.objs.size:=by
 cases b<;>(revert x;refine eE1 fun o=>aA2 fun g U=>?_;exact Heap.lt_size g)
def z1 (n:Bool)(k:Vl→Vl→Bool)(l m:List Vl):Bool:=(@List.rec Vl (fun U=>Bool) (@List.rec Vl (fun U=>Bool) n (fun U U U=>false) m) (fun x r U=>(@List.rec Vl (fun U=>Bool) (@List.rec Vl (fun U=>Bool) false (fun y q U=>(@List.rec Vl (fun U=>Bool) (k x y) (fun U U U=>false) q)) m) (fun U U U=>false) r)) l)
theorem Ac (t:z1 n k l m=true):(l=[]∧m=[]∧n=true)∨∃ x y,l=[x]∧m=[y]∧k x y=true:=by
 cases l with
 | nil=>cases m with
  | nil=>exact .inl ⟨rfl,rfl,t⟩
  | cons _ _=>exact ft t
 | cons x r=>cases r with
  | cons _ _=>exact ft t
  | nil=>cases m with
   | nil=>exact ft t
   | cons y q=>cases q with
    | nil=>exact .inr ⟨x,y,rfl,rfl,t⟩
    | cons _ _=>exact ft t
theorem mE (t:EP a b kn k1 r f h e=true) :
  bz a (bz b eE) r f h (fun vs h=>l2 (fun v w=>items h v fun l=>items h w fun m=>z1 (kn h) (fun x y=>k1 x y h) l m) vs) e=true:=t
theorem pM {Tn:String}{A:Around}{e:KE}{kn:Hp→Bool}{k1:Vl→Vl→Hp→Bool}{Q E:Value→Shared→Prop}(hh:A.handled=none){s1:Shared}{ι1:Io}{H1:Hp}(S1:St W fs ι1 H1 s1){y1 y2:Vl}{v1 v2:Value}(rv1:RV W ι1 s1.heap v1 y1)(rv2:RV W ι1 s1.heap v2 y2)
  (t:items H1 y1 (fun l=>items H1 y2 fun m=>z1 (kn H1) (fun x y=>k1 x y H1) l m)=true)
  (hQ:∀ h' z TI TO i1 i2 l1 l2 xs ys a b,(∀ b o,s1.heap.get? b=some o→h'.get? b=some o)→s1.heap.get? h'.objs.size=none→(∀ c o,s1.heap.get? c=some o→c≠z∧c≠TO∧c≠i1∧c≠i2)→mr h' z TI TO i1 i2 l1 l2 xs ys a b →
   ((xs=#[]∧ys=#[]∧kn H1=true)∨∃ v w x y,xs=#[v]∧ys=#[w]∧RV W ι1 s1.heap v x∧RV W ι1 s1.heap w y∧k1 x y H1=true)→wpAny (model W.prog W.w) A (call (.type Tn) [.ref z]) Q E { s1 with heap:=h' }) :
  wpAny (model W.prog W.w) A (call (.type "zip") [v1,v2]) (fun v s2=>wpAny (model W.prog W.w) A (call (.type Tn) [v]) Q E s2) E s1:=by
 refine bC fun G=>?_;refine eE4 (fun l b1 a1 xs=>aA4 fun z5q4 src1 rvs1 t=>?_) (mG S1 rv1 t);obtain rfl:=z5q4
 refine eE4 (fun m b2 a2 ys=>aA4 fun z6q4 src2 rvs2 t=>?_) (mG S1 rv2 t);obtain rfl:=z6q4
 apply G;refine gS src1 src2 fun h' gz gTI gTO si1 si2 hsz K=>?_
 have far:∀ c o,s1.heap.get? c=some o→c≠s1.heap.objs.size+4∧c≠s1.heap.objs.size+3∧c≠s1.heap.objs.size∧c≠s1.heap.objs.size+1:=fun c o g=>by
  have lt:=Heap.lt_size g
  exact⟨Nat.ne_of_lt (Nat.lt_of_lt_of_le lt (Nat.le_add_right _ 4)),Nat.ne_of_lt (Nat.lt_of_lt_of_le lt (Nat.le_add_right _ 3)),Nat.ne_of_lt lt,Nat.ne_of_lt (Nat.lt_of_lt_of_le lt (Nat.le_add_right _ 1))⟩
 refine hQ h' _ _ _ _ _ _ _ _ _ _ _ K (aw (by rw[hsz];exact Nat.le_add_right _ 5)) far ⟨vh src1.lt src2.lt,gz,gTI,gTO,si1,si2⟩ ?_
 refine bC fun G=>?_;obtain⟨xl⟩:=xs
 obtain⟨yl⟩:=ys
 dsimp only at rvs1 rvs2
 rcases Ac t with ⟨rfl,rfl,t⟩| ⟨x,y,rfl,rfl,t⟩
 ·apply G;rw[show xl=[] from rvs1.inv,show yl=[] from rvs2.inv]
  exact .inl ⟨rfl,rfl,t⟩
 ·obtain⟨v,rfl,r1⟩:=rvs1.one
  obtain⟨w,rfl,r2⟩:=rvs2.one
  apply G;exact .inr ⟨_,_,_,_,rfl,rfl,r1,r2,t⟩
set_option tactic.hygienic true in
theorem zI {x y:CX}{nd nz:Str}{pos p zpos zp:Pos}{e1 e2:Expr}(hn:sc.names.lookup nd=some .globalImplicit)(hg:nsIn W.K mainGlobals nd=some none)(hb:nsIn W.K builtinsNs nd=some (some (.type "dict")))(hd:(nd == ("__debug__" : Str))=false)
  (hnz:sc.names.lookup nz=some .globalImplicit)(hgz:nsIn W.K mainGlobals nz=some none)(hbz:nsIn W.K builtinsNs nz=some (some (.type "zip")))(hdz:(nz == ("__debug__" : Str))=false)
  (hl:SA W sc (bz x (bz y eE)) [e1,e2])(hez:∀ env,eval (.Call (.Name nz zp) [e1,e2] [] zpos) env=(do callWith zpos (← eval (.Name nz zp) env) [] (backTo zpos (starEach [e1,e2] env)) (backToKw zpos (keywordEach [] env))))
  (he:∀ env,eval (.Call (.Name nd p) [.Call (.Name nz zp) [e1,e2] [] zpos] [] pos) env=(do callWith pos (← eval (.Name nd p) env) [] (backTo pos (starEach [.Call (.Name nz zp) [e1,e2] [] zpos] env)) (backToKw pos (keywordEach [] env))))
  (hs:∀ env,starEach [.Call (.Name nz zp) [e1,e2] [] zpos] env=(false,eval (.Call (.Name nz zp) [e1,e2] [] zpos) env) :: starEach [] env)(hp:∀ env,(backTo pos (starEach [.Call (.Name nz zp) [e1,e2] [] zpos] env)).any (·.1)=false) :
  SX W sc (CG x y) (.Call (.Name nd p) [.Call (.Name nz zp) [e1,e2] [] zpos] [] pos):=fun r d A fs env f ι H s k e h t=>by
 refine jU h hn hg hb hd (he env) (hs env) (hp env) ?_
 refine gV hnz hgz hbz hdz hl hez h (mE t) fun vs s1 P=>?_
 refine bC fun G=>?_;obtain⟨ι1,H1,ys,S1,E1,rvs,t⟩:=P
 refine eE2 (fun y1 y2=>aA2 fun yq t=>?_) (jy t);subst yq
 refine eE2 (fun v1 v2=>aA3 fun vq rv1 rv2=>?_) rvs.two;subst vq
 apply G;refine pM h.ar.handled S1 rv1 rv2 (kn:=fun h=>mkD [] h k) (k1:=fun x y h=>ed x fun s=>mkD [(s,y)] h k) (e:=e) t fun h' z TI TO i1 i2 l1 l2 xs ys a b K nn far Z hc=>?_
 refine bC fun G=>?_;rcases hc with ⟨rfl,rfl,t⟩| ⟨v,w,x,y,rfl,rfl,r1,r2,t⟩
 ·apply G;refine pb (knd:=W.sk) (s:={ s1 with heap:=h' }) h.ar.handled Z (.inl rfl) fun h'' tk kvs K2 gd hk=>?_
  refine bC fun G=>?_;rcases hk with ⟨_,rfl⟩| ⟨k,x,y,hx,_⟩
  ·apply G;refine(gB S1 (fun b o g=>?_) nn gd .nil t).from E1
   refine aA4 (fun f1 f2 f3 f4=>?_) (far b o g)
   exact K2 b o f1 f2 f3 f4 (K b o g)
  ·exact zns hx
 ·refine eE1 (fun c=>aA2 fun z11q1 t=>?_) (aG t);obtain rfl:=z11q1
  refine eE2 (fun _ t1=>aA2 fun z12q2 hs=>?_) (r1.inv);obtain rfl:=z12q2;next =>
  rename_i st
  apply G;refine pb (knd:=W.sk) (s:={ s1 with heap:=h' }) h.ar.handled Z (.inr ⟨st,_,_,rfl,rfl,rfl,nU W st t1⟩) fun h'' tk kvs K2 gd hk=>?_
  refine bC fun G=>?_;rcases hk with ⟨h0,_⟩| ⟨k0,x0,y0,hx,hy,hk,rfl⟩
  ·exact zsn h0
  ·replace hx:=ab hx;subst hx;replace hy:=ab hy;subst hy
   have hk:Value.isStrOf k0 (.str st t1)=true:=hk
   obtain⟨t9,e9⟩:=Value.isStrOf_shape hk
   injection e9 with e9 _
   subst e9
   apply G;refine(gB S1 (fun b o g=>?_) nn gd (.cons hs r2 .nil) t).from E1
   refine aA4 (fun f1 f2 f3 f4=>?_) (far b o g)
   exact K2 b o f1 f2 f3 f4 (K b o g)
theorem Ce {x y:CX}{nd nz:Str}{pos p zpos zp:Pos}{e1 e2:Expr}(hn:sc.names.lookup nd=some .globalImplicit)(hg:nsIn W.K mainGlobals nd=some none)(hb:nsIn W.K builtinsNs nd=some (some (.type "list")))(hd:(nd == ("__debug__" : Str))=false)
  (hnz:sc.names.lookup nz=some .globalImplicit)(hgz:nsIn W.K mainGlobals nz=some none)(hbz:nsIn W.K builtinsNs nz=some (some (.type "zip")))(hdz:(nz == ("__debug__" : Str))=false)
  (hl:SA W sc (bz x (bz y eE)) [e1,e2])(hez:∀ env,eval (.Call (.Name nz zp) [e1,e2] [] zpos) env=(do callWith zpos (← eval (.Name nz zp) env) [] (backTo zpos (starEach [e1,e2] env)) (backToKw zpos (keywordEach [] env))))
  (he:∀ env,eval (.Call (.Name nd p) [.Call (.Name nz zp) [e1,e2] [] zpos] [] pos) env=(do callWith pos (← eval (.Name nd p) env) [] (backTo pos (starEach [.Call (.Name nz zp) [e1,e2] [] zpos] env)) (backToKw pos (keywordEach [] env))))
  (hs:∀ env,starEach [.Call (.Name nz zp) [e1,e2] [] zpos] env=(false,eval (.Call (.Name nz zp) [e1,e2] [] zpos) env) :: starEach [] env)(hp:∀ env,(backTo pos (starEach [.Call (.Name nz zp) [e1,e2] [] zpos] env)).any (·.1)=false) :
  SX W sc (Ct x y) (.Call (.Name nd p) [.Call (.Name nz zp) [e1,e2] [] zpos] [] pos):=fun r d A fs env f ι H s k e h t=>by
 refine jU h hn hg hb hd (he env) (hs env) (hp env) ?_
 refine gV hnz hgz hbz hdz hl hez h (mE t) fun vs s1 P=>?_
 refine bC fun G=>?_;obtain⟨ι1,H1,ys,S1,E1,rvs,t⟩:=P
 refine eE2 (fun y1 y2=>aA2 fun yq t=>?_) (jy t);subst yq
 refine eE2 (fun v1 v2=>aA3 fun vq rv1 rv2=>?_) rvs.two;subst vq
 apply G;refine pM h.ar.handled S1 rv1 rv2 (kn:=fun U=>false) (k1:=fun x y h=>mkL [.tup [x,y]] h k) (e:=e) t fun h' z TI TO i1 i2 l1 l2 xs ys a b K nn far Z hc=>?_
 refine bC fun G=>?_;rcases hc with ⟨_,_,t⟩| ⟨v,w,x,y,rfl,rfl,r1,r2,t⟩
 ·exact ft t
 ·apply G;refine um (s:={ s1 with heap:=h' }) h.ar.handled Z rfl rfl rfl fun h'' tk T c K2 nT neT gL gT=>?_
  have K3:∀ b o,s1.heap.get? b=some o→h''.get? b=some o:=fun b o g=>by
   refine aA4 (fun f1 f2 f3 f4=>?_) (far b o g)
   exact K2 b o f1 f2 f3 f4 (K b o g)
  have nT1:s1.heap.get? T=none:=by
   cases q:s1.heap.get? T with
   | none=>rfl
   | some o=>have:=K _ _ q;rw[show h'.get? T=none from nT] at this;exact zns this
  obtain⟨ln,t⟩:=aA t
  rw[aT] at t
  have tk1:TK W ι1 s1.heap ι1 h'':=TK.of_keeps K3
  obtain⟨S2,E2⟩:=S1.new K3 (p:=(h'.objs.size,h'.objs.size)) (o:=.list [.tup [x,y]]) (tk:=tk) (dr:=s1.drawn) nn nn fun tk=>by
   refine⟨rfl,ln,_,c,gL,.cons (.tup gT (by show 2≤1000;simp +arith only) ?_ fun z=>?_) .nil⟩
   ·exact .cons (r1.mono (aN S1.unused) tk) (.cons (r2.mono (aN S1.unused) tk) .nil)
   ·rcases bF z with z | z | z
    ·exact S1.fv nT1 z
    ·exact neT z
    ·exact neT z
  exact⟨_,_,_,S2,E1.trans E2,.ref (ao _ _ _),t⟩
end
theorem AR (h:HK d=some c):d = .cls c:=by
 cases d<;>first | exact zns h | exact congrArg Data.cls (ab h)
theorem bc (h:(!a)=true):a=false:=by
 cases a with
 | false=>rfl
 | true=>exact nf h
structure Exc (M:Model)(h:Heap)(C:Addr):Prop where
 obj:∃ oc od cd sl,h.get? C=some ⟨oc,od,.cls cd,sl⟩∧cd.abstract=false∧cd.hasDel=false∧cd.mro.isEmpty=false
 made:Looks M h (Bind.madeBy (.ref C)) (some "Exception.__new__")
 base:Looks M h (Bind.staticBase (.ref C)) (.ref C)
 self:Looks M h (isSubtype (.ref C) (.ref C)) true
 vD:Looks M h (isSubtype (.ref C) (.type "Exception")) true
 subB:Looks M h (isSubtype (.ref C) (.type "BaseException")) true
 noA:Looks M h (isSubtype (.ref C) (.type "AttributeError")) false
 noN:Looks M h (isSubtype (.ref C) (.type "NameError")) false
 call:Looks M h (specialOf (.ref C) "__call__") (some (.builtin "type.__call__"))
 typ:Looks M h (isInstance (.ref C) (.type "type")) true
 noT:Looks M h (isInstance (.ref C) (.type "tuple")) false
theorem Gi (z:(a&&(b&&(c&&(d&&(e&&(f&&(g&&(h&&(i&&(j&&(k&&l)))))))))))=true):a=true∧b=true∧c=true∧d=true∧e=true∧f=true∧g=true∧h=true∧i=true∧j=true∧k=true∧l=true:=by
 simpa only[Bool.and_eq_true] using z
theorem AQ (hl:cd.mro=c :: l)(hm:Looks M h (mroOf (.ref C)) cd.mro)(ho:h.get? C=some ⟨oc,od,.cls cd,sl⟩)(e3:(sl.toList[4]?).join=some (.builtin "Exception.__new__")):Looks M h (Bind.madeBy (.ref C)) (some "Exception.__new__"):=by
 intro A Q E s k q
 unfold Bind.madeBy
 refine wpAny_bind (hm A _ E s k ?_)
 rw[hl,List.forIn_cons]
 refine wpAny_bind (wpAny_bind (wpAny_bind (wpAny_bind (wpAny_loadPart (k _ _ ho) (wpAny_pure ?_)))))
 dsimp only
 rw[← Array.getElem?_toList,e3]
 exact wpAny_pure (wpAny_pure (wpAny_pure q))
theorem Bd {M:Model}{h:Heap}{C:Addr}{m c:Value}{l:List Value}{x:String}(hm:Looks M h (mroOf (.ref C)) (c :: l))(made:Looks M h (Bind.madeBy (.ref C)) (some x)):Looks M h (Bind.staticBase (.ref C)) (.ref C):=by
 intro A Q E s k q
 unfold Bind.staticBase
 refine wpAny_bind (hm A _ E s k ?_)
 rw[List.forIn_cons]
 exact wpAny_bind (wpAny_bind (wpAny_bind (made A _ E s k (wpAny_pure (wpAny_pure (wpAny_pure q))))))
theorem jV {K:Frag}{M:Model}{h:Heap}(X:K.In h){C:Addr}(e:excIn K C=true):Exc M h C:=by
 refine bC fun G=>?_
 refine eE1 (fun o=>aA2 fun ho e=>eE1 (fun cd=>aA2 fun hd e=>?_) (PySem.W.any_some e)) (PySem.W.any_some e)
 obtain⟨oc,od,dt,sl⟩:=o
 rw[show dt = .cls cd from AR hd] at ho
 refine IT (fun e1 e2 e3 e4 e5 e6 e6b e6c e6d e7 e8 e9=>?_) (Gi e)
 have hc:clsIn K C=some cd:=by unfold clsIn;rw[ho]
 have hm:Looks M h (mroOf (.ref C)) cd.mro:=(looks_clsIn X hc).andThen .now
 refine eE2 (fun c l hl=>?_) (show ∃ c l,cd.mro=c :: l by cases q:cd.mro with | nil=>rw[q] at e4;exact nf e4 | cons c l=>exact⟨c,l,rfl⟩)
 have made:=AQ hl hm (X _ _ ho) (beq_iff_eq.mp e3)
 have sub:∀ {b r},cd.mro.contains b=r→Looks M h (isSubtype (.ref C) b) r:=fun {b r} e=>looks_mroIn X (by unfold mroIn;rw[hc,Option.bind_some,if_neg (by rw[bc e4];decide),e])
 exact G ⟨⟨oc,od,cd,sl,X _ _ ho,bc e1,bc e2,bc e4⟩,made,Bd (m:=.none) (hl▸hm) made,sub e5,sub e6,sub e6b,sub (bc e6c),sub (bc e6d),looks_specialIn X (beq_iff_eq.mp e7),looks_instIn X (beq_iff_eq.mp e8),looks_instIn X (beq_iff_eq.mp e9)⟩
noncomputable abbrev fq (rest:List Value):Obj:={ cls:=.type "tuple",data:=.seq rest.toArray }
noncomputable abbrev cQ (C t:Addr):Obj:={ cls:=.ref C,data:=.fields #[.ref t,.none,.none,.none,.bool false,.none] }
section
variable {M:Model}{A:Around}{E:Value→Shared→Prop}{s:Shared}{Q:Unit→Shared→Prop}
theorem Bq (c:Value)(rest:List Value):Bind.checkArgs "Exception.__new__" ⟨.any,"Exception","Exception",.cls,[⟨"args",.varPos,false⟩,⟨"kwargs",.varKw,false⟩]⟩ ⟨c :: rest,[]⟩=pure ():=by kernel_rfl
theorem ph {c o b:Value}{made:Option String}{t1 t2:Sem Unit}{m:Value→Option String→Sem Unit}
  (h1:Looks M s.heap (isType c) true)(h2:Looks M s.heap (isSubtype c o) true)(h3:Looks M s.heap (Bind.staticBase c) b)(h4:Looks M s.heap (Bind.madeBy b) made)(hz:wpAny M A (m b made) Q E s) :
  wpAny M A (isType c >>= fun r=>if(!r)=true then t1 else isSubtype c o >>= fun r=>if(!r)=true then t2 else Bind.staticBase c >>= fun b=>Bind.madeBy b >>= fun x=>m b x) Q E s :=
 wpAny_bind (h1.here (wpAny_ite_false rfl (wpAny_bind (h2.here (wpAny_ite_false rfl (wpAny_bind (h3.here (wpAny_bind (h4.here hz)))))))))
theorem Fx (Y:Exc (model prog w) s.heap C)(hq:Q () s):wpAny (model prog w) A (checkBuiltinCall "Exception.__new__" ⟨.ref C :: rest,[]⟩) Q E s:=by
 have F:=PySem.F.excBase_Exception
 delta checkBuiltinCall
 rw[F.newKind,F.newSplit,F.newRow]
 obtain⟨oc,od,cd,sl,hC,_⟩:=Y.obj
 refine wpAny_ite_true (by rw[beq_self_eq_true];rfl) (ph ((Looks.ld hC).andThen .now) Y.vD Y.base Y.made ?_)
 refine wpAny_ite_false (by rw[bne_self_eq_false];rfl) ?_
 show wpAny _ _ (Bind.checkArgs _ _ _) _ _ _
 rw[Bq]
 exact wpAny_pure hq
end
section
variable {prog:Program}{w:World}{A:Around}{K:Frag}{C:Addr}{R:Result→Shared→Prop}{h:Heap}{g:Array GenState}{d:Drawn}{t:Nat}{os:OsState}
theorem new_exc (Y:Exc (model prog w) h C)
  (hq:R (.ok (.ret (.ref (h.objs.size+1)))) ⟨(h.push (fq rest)).push (cQ C h.objs.size),g,d,t,os⟩)(hrest:rest.length≤sizeLine) :
  codeAny (model prog w) A (.call (.builtin "Exception.__new__") ⟨.ref C :: rest,[]⟩) R ⟨h,g,d,t,os⟩:=by
 have F:=PySem.F.excBase_Exception
 have hends:=F.ends
 have hstar:=F.noStar
 refine codeAny_call_builtin_code (Code.quiet_builtin _ F.quiet) (Fx Y ?_)
 obtain⟨⟨oc,od,cd,sl,hC,e1,e2,e4⟩,made,base,self,vD,subB,noA,noN,call,typ,noT⟩:=Y
 have here2:Looks (model prog w) h (Bind.madeHere "BaseException.__new__" (.ref C)) ():=base.andThen (made.andThen (Looks.of_pure (by simp only[Option.map_some,F.canon,bne_self_eq_false,Bool.false_eq_true,if_false])))
 refine codeAny_builtinAt F.entry ?_
 unfold Builtin.«BaseException.__new__»
 refine PySem.wpAt_bind ?_
 show PySem.wpAt _ _ _ (stack >>= _) _ _ _
 refine PySem.wpAt_bind (PySem.wpAt_stack fun p below=>PySem.wpAt_of_wpAny ?_)
 wp_walk
 refine PySem.wpAt_of_wpAny ?_
 rw[F.owner]
 repeat (first | lk | wp_step)
 refine wpAny_loadPart (Heap.get?_push_of_some _ (Heap.get?_push_of_some _ hC)) ?_
 refine wpAny_pure ?_
 rw[e2,if_neg Bool.false_ne_true]
 refine wpAny_pure ?_
 refine wpAny_pure ?_
 show R _ _
 rw[Heap.size_push]
 exact hq
end
noncomputable def cA:List (Str × Value)→List (Str × Value)→List (Str × Value)
 | s,[]=>s
 | s,(n,d) :: r=>cA (if(s.lookup n).isNone then s++[(n,d)] else s) r
theorem gf:∀ (a b s:List (Str × Value)),cA s (a++b)=cA (cA s a) b
 | [],_,_=>rfl
 | (n,d) :: r,b,s=>gf r b _
theorem jg:∀ (a s:List (Str × Value)),(∀ p∈a,(s.lookup p.1).isSome=true)→cA s a=s
 | [],_,_=>rfl
 | (n,d) :: r,s,h=>by
  have h1:=h (n,d) (.head _)
  have e:(s.lookup n).isNone=false:=by cases q:s.lookup n with | none=>rw[q] at h1;(first | exact nf h1 | exact ns h1 | cases h1)| some _=>rfl
  show cA (if(s.lookup n).isNone then s++[(n,d)] else s) r=s
  rw[e]
  exact jg r s fun p m=>h p (.tail _ m)
theorem dw:∀ {s:List (Str × Value)},n∉s.map (·.1)→s.lookup n=none
 | [],_=>rfl
 | (m,d) :: r,h=>by
  have ne:n≠m:=fun z=>h (by rw[z];exact .head _)
  have e:(n == m)=false:=by simpa using ne
  rw[List.lookup_cons,e]
  exact dw fun z=>h (.tail _ z)
theorem lE:∀ (a s:List (Str × Value)),(a.map (·.1)).Nodup→(∀ p∈a,p.1∉s.map (·.1))→cA s a=s++a
 | [],s,_,_=>(List.append_nil s).symm
 | (n,d) :: r,s,nd,h=>by
  have e:(s.lookup n).isNone=true:=by rw[dw (h (n,d) (.head _))];rfl
  show cA (if(s.lookup n).isNone then s++[(n,d)] else s) r=_
  rw[e,if_pos rfl,lE r _ (List.nodup_cons.mp nd).2,List.append_assoc]
  ·rfl
  ·intro p m z
   rw[List.map_append] at z
   rcases List.mem_append.mp z with z | z
   ·exact h p (.tail _ m) z
   ·simp only[List.map_cons,List.map_nil,List.mem_singleton] at z
    exact(List.nodup_cons.mp nd).1 (z▸List.mem_map_of_mem (f:=(·.1)) m)
theorem iB:∀ (a:List Str)(b:List Value),(a.zip b).map (·.1)=a.take b.length
 | [],_=>by simp
 | _ :: _,[]=>rfl
 | x :: r,y :: s=>congrArg (x :: ·) (iB r s)
theorem dy:∀ {s:List (Str × Value)},n∈s.map (·.1)→(s.lookup n).isSome=true
 | (m,d) :: r,h=>by
  rw[List.lookup_cons]
  by_cases e:(n == m)=true
  ·rw[e];rfl
  ·rw[Bool.not_eq_true] at e
   rw[e]
   have ne:n≠m:=by simpa using e
   refine dy ?_
   cases h with
   | head=>exact absurd rfl ne
   | tail _ h=>exact h
theorem yQ (names:List Str):∀ (ws:List Value)(pre:List (Str × Value)),names.Nodup→names.length=ws.length→(∀ n∈names,n∉pre.map (·.1)) →
  names.filterMap (fun n=>((pre++names.zip ws).lookup n).map (n,·))=names.zip ws:=by
 induction names with
 | nil=>exact fun U U U U U=>rfl
 | cons n r ih =>
  intro ws pre nd h dj
  cases ws with
  | nil=>injection h
  | cons w ws =>
   have e1:(pre++(n :: r).zip (w :: ws)).lookup n=some w:=by
    rw[List.lookup_append,dw (dj n (.head _))]
    simp
   rw[List.filterMap_cons,e1]
   show(n,w) :: _=(n,w) :: r.zip ws
   have:=ih ws (pre++[(n,w)]) (List.nodup_cons.mp nd).2 (by simpa using h) fun m hm z=>by
    rw[List.map_append] at z
    rcases List.mem_append.mp z with z | z
    ·exact dj m (.tail _ hm) z
    ·simp only[List.map_cons,List.map_nil,List.mem_singleton] at z
     exact(List.nodup_cons.mp nd).1 (z▸hm)
   rw[List.append_assoc] at this
   exact congrArg ((n,w) :: ·) this
theorem yL {names:List Str}{vs ds:List Value}(nd:names.Nodup)(le:vs.length≤names.length)(ld:ds.length≤names.length)(en:names.length≤vs.length+ds.length) :
  ((names.take (names.length - ds.length)).filter fun n=>((names.zip vs).lookup n).isNone)=[] ∧
  names.filterMap (fun n=>((cA (names.zip vs) ((names.drop (names.length - ds.length)).zip ds)).lookup n).map (n,·))=names.zip (vs++ds.drop (ds.length - (names.length - vs.length))):=by
 obtain⟨a,b,rfl,la⟩:∃ a b,names=a++b∧a.length=vs.length:=⟨names.take vs.length,names.drop vs.length,(List.take_append_drop _ _).symm,List.length_take_of_le le⟩
 clear le
 have hb:b.length≤ds.length:=by rw[List.length_append,la] at en;exact Nat.le_of_add_le_add_left en
 have hs:(a++b).length - ds.length≤a.length:=by rw[List.length_append];exact Nat.sub_le_of_le_add (Nat.add_le_add_left hb _)
 have zv:(a++b).zip vs=a.zip vs:=by
  have:=List.zip_append (l₁:=a) (r₁:=b) (l₂:=vs) (r₂:=[]) la
  rw[List.append_nil,List.zip_nil_right,List.append_nil] at this;exact this
 have kv:(a.zip vs).map (·.1)=a:=by rw[iB,← la,List.take_length]
 have nab:=List.nodup_append.mp nd
 constructor
 ·rw[List.filter_eq_nil_iff]
  intro n hn
  rw[zv]
  rw[List.take_append_of_le_length hs] at hn
  have:=dy (s:=a.zip vs) (n:=n) (by rw[kv];exact List.mem_of_mem_take hn)
  cases q:(a.zip vs).lookup n with
  | none=>rw[q] at this;exact ft this
  | some _=>exact Bool.noConfusion
 ·rw[zv]
  obtain⟨p,q,rfl,lq⟩:∃ p q,ds=p++q∧q.length=b.length:=⟨ds.take (ds.length - b.length),ds.drop (ds.length - b.length),(List.take_append_drop _ _).symm,by rw[List.length_drop,Nat.sub_sub_self hb]⟩
  have lp:p.length≤a.length:=by rw[List.length_append,List.length_append,lq] at ld;exact Nat.le_of_add_le_add_right ld
  have e1:(a++b).drop ((a++b).length - (p++q).length)=a.drop ((a++b).length - (p++q).length)++b:=List.drop_append_of_le_length hs
  have e3:(p++q).drop ((p++q).length - ((a++b).length - vs.length))=q:=by
   rw[List.length_append,List.length_append,← la,Nat.add_sub_cancel_left,← lq,Nat.add_sub_cancel,List.drop_left]
  have s1:cA (a.zip vs) ((a.drop ((a++b).length - (p++q).length)).zip p)=a.zip vs:=jg _ _ fun x hx=>dy (by
   rw[kv]
   have:=List.mem_map_of_mem (f:=(·.1)) hx
   rw[iB] at this
   exact List.mem_of_mem_drop (List.mem_of_mem_take this))
  have kb:(b.zip q).map (·.1)=b:=by rw[iB,lq,List.take_length]
  have s2:cA (a.zip vs) (b.zip q)=a.zip vs++b.zip q:=lE _ _ (by rw[kb];exact nab.2.1) fun x hx z=>by
   rw[kv] at z
   have:=List.mem_map_of_mem (f:=(·.1)) hx
   rw[kb] at this
   exact nab.2.2 _ z _ this rfl
  rw[e1,e3,List.zip_append (by rw[List.length_drop,List.length_append,List.length_append,lq,Nat.add_sub_add_right,Nat.sub_sub_self lp]),gf,s1,s2,← List.zip_append la]
  exact yQ (a++b) _ [] nd (by rw[List.length_append,List.length_append,la,lq]) (fun U U z=>by cases z)
theorem iD (f:Str × Value→List (Str × Value)→Sem (ForInStep (List (Str × Value))))(hf:∀ n d s,f (n,d) s=if(s.lookup n).isNone=true then pure (.yield (s++[(n,d)])) else pure (.yield s)) :
  ∀ (l s:List (Str × Value)),forIn l s f=(pure (cA s l):Sem _)
 | [],s=>by rw[List.forIn_nil];rfl
 | (n,d) :: r,s=>by
  rw[List.forIn_cons,hf]
  show _=(pure (cA (if(s.lookup n).isNone=true then s++[(n,d)] else s) r):Sem _)
  split
  ·rw[pure_bind];exact iD f hf r _
  ·rw[pure_bind];exact iD f hf r _
section
variable {M:Model}{A:Around}{E:Value→Shared→Prop}{s:Shared}
structure iR (p:Arguments)(names:List Str):Prop where
 po:p.posonlyargs=[]
 nm:p.args.map (·.arg)=names
 va:p.vararg=none
 ko:p.kwonlyargs=[]
 ka:p.kwarg=none
 nd:names.Nodup
theorem r9 {names:List Str}{vs ds:List Value}{Q:List (Str × Value)→Shared→Prop}(h:Q (names.zip (vs++ds.drop (ds.length - (names.length - vs.length)))) s)
  (le:vs.length≤names.length)(ld:ds.length≤names.length)(en:names.length≤vs.length+ds.length)(nd:names.Nodup){t1 t2:Sem (List (Str × Value))}{g:Str × Value→List (Str × Value)→Sem (ForInStep (List (Str × Value)))}(hg:∀ n d s,g (n,d) s=if(s.lookup n).isNone=true then pure (.yield (s++[(n,d)])) else pure (.yield s)) :
  wpAny M A (if(decide (vs.length > names.length)&&true)=true then t1 else
   if(!((names.take (names.length - (ds.drop (ds.length - names.length)).length)).filter fun n=>((names.zip vs).lookup n).isNone).isEmpty)=true then t2 else
   forIn ((names.drop (names.length - (ds.drop (ds.length - names.length)).length)).zip (ds.drop (ds.length - names.length))) (names.zip vs) g >>= fun sl =>
    pure ((names++[]).filterMap fun n=>(sl.lookup n).map (n,·))) Q E s:=by
 obtain⟨f1,f2⟩:=yL nd le ld en
 rw[Nat.sub_eq_zero_of_le ld,List.drop_zero,f1,List.append_nil]
 refine wpAny_ite_false (by rw[decide_eq_false (Nat.not_lt.mpr le)];rfl) (wpAny_ite_false rfl ?_)
 refine wpAny_bind (wpAny_of_eq (iD _ hg _ _) (wpAny_pure ?_))
 rw[f2];exact h
theorem iR.eq (P:iR p names):∃ q2 q5 q7,p=⟨[],q2,none,[],q5,none,q7⟩∧q2.map (·.arg)=names:=by
 obtain⟨q1,q2,q3,q4,q5,q6,q7⟩:=p
 obtain⟨r1,r2,r3,r4,r5,r6⟩:=P
 dsimp only at r1 r2 r3 r4 r5
 subst r1 r3 r4 r5
 exact⟨_,_,_,rfl,r2⟩
theorem dK {fd:FuncData}{names:List Str}{vs ds:List Value}(P:iR fd.params names){od:Option (Array Value)}(hd:∀ (A:Around)(E:Value→Shared→Prop)(Q:Option (Array Value)→Shared→Prop),Q od s→wpAny M A (seqItems? fd.defaults) Q E s)(ho:(od.getD #[]).toList=ds)
  (le:vs.length≤names.length)(ld:ds.length≤names.length)(en:names.length≤vs.length+ds.length){Q:List (Str × Value)→Shared→Prop}
  (h:Q (names.zip (vs++ds.drop (ds.length - (names.length - vs.length)))) s):wpAny M A (bindArgs fd ⟨vs,[]⟩) Q E s:=by
 refine bC fun G=>?_;refine eE3 (fun q2 q5 q7=>aA2 fun e e2=>?_) P.eq
 have r6:=P.nd
 subst e2 ho
 apply G;delta bindArgs
 rw[e]
 exact wpAny_bind (wpAny_pure (wpAny_bind (hd _ _ _ (r9 h le ld en r6 fun U U U=>rfl))))
end
noncomputable abbrev ip:Obj:={ cls:=.type "cell",data:=.cell none }
theorem vJ (names:List (Str × NameKind)):∀ (h:Heap)(acc:List (Str × Addr)),(∀ p∈acc,h.get? p.2=some ip)→∀ p∈cellsFrom h.objs.size names acc,(pushCells h names).get? p.2=some ip:=by
 induction names with
 | nil=>exact fun U U x=>x
 | cons nk r ih =>
  obtain⟨name,kind⟩:=nk
  intro h acc x
  unfold pushCells cellsFrom
  split
  ·have:=ih (h.push ip) ((name,h.objs.size) :: acc) fun p m=>by
    rcases List.mem_cons.mp m with rfl | m
    ·exact Heap.get?_push_size _ rfl
    ·exact Heap.get?_push_of_some _ (x p m)
   rwa [Heap.size_push] at this
  ·exact ih h acc x
theorem kS:∀ (names:List (Str × NameKind))(h:Heap)(n:Nat)(acc:List (Str × Addr)),(∀ x∈names,x.2≠.cell)→cellsFrom n names acc=acc∧pushCells h names=h
 | [],_,_,_,_=>⟨rfl,rfl⟩
 | (name,kind) :: r,h,n,acc,x=>by
  have e:(kind == NameKind.cell)=false:=by have:=x _ (.head _);simpa using this
  unfold pushCells cellsFrom
  rw[if_neg (by rw[e];decide),if_neg (by rw[e];decide)]
  exact kS r h n acc fun y m=>x y (.tail _ m)
theorem oR (h:env.frame=some L):frs (env :: fs)=L :: frs fs:=by unfold frs;rw[List.filterMap_cons,h]
section
variable {W:Wd}{sc:Sc}{fs:List Env}{env:Env}{ι ι0:Io}{H:Hp}{s:Shared}{h0:Heap}{X:Addr→Prop}
theorem St.enter (S:St W fs ι H s)(hf:env.frame=some L)(hk:env.scope.kind = .function)(hm:s.heap.Ns L m)(nb:W.base.get? L=none)(no:¬ Own W ι L):St W (env :: fs) ι H s:=by
 refine⟨S.bo,S.bp,S.mods,S.ground,S.old,S.lim,.cons (by rw[hk];decide) hf hm nb S.frames,fun L' m'=>?_,S.live,S.dom,S.apart,fun b o=>⟨(S.fresh b o).1,fun z=>?_⟩,S.aF,S.src,S.gens,S.os,S.tabs⟩
 ·rw[oR hf] at m'
  refine bC fun G=>?_;rcases List.mem_cons.mp m' with rfl | m'
  ·revert hm;refine eE3 fun o es ep=>aA3 fun g d U=>?_
   apply G;exact⟨o,es,ep,g,d⟩
  ·apply G;exact S.frd L' m'
 ·rw[oR hf] at z
  rcases List.mem_cons.mp z with z | z
  ·exact no (z▸o)
  ·exact(S.fresh b o).2 z
theorem St.exit (S:St W (env :: fs) ι H s):St W fs ι H s:=by
 have fr:=S.frames
 have sub:∀ b,b∈frs fs→b∈frs (env :: fs):=fun b m=>by
  unfold frs at m ⊢
  rw[List.filterMap_cons]
  split
  ·exact m
  ·exact .tail _ m
 exact⟨S.bo,S.bp,S.mods,S.ground,S.old,S.lim,fr.2.2,fun L m=>S.frd L (sub L m),S.live,S.dom,S.apart,fun b o=>⟨(S.fresh b o).1,fun z=>(S.fresh b o).2 (sub b z)⟩,S.aF,S.src,S.gens,S.os,S.tabs⟩
theorem oV (own:List Addr):∀ {ι:Io}{H:Hp}{k:List Nat→Hp→Bool},St W fs ι H s→Ext W X ι0 h0 ι s.heap→(∀ a∈own,W.base.get? a=none∧¬ Own W ι a∧a∉frs fs∧s.heap.get? a=some ip∧h0.get? a=none)→own.Nodup →
  aR own.length H k=true→∃ ι' H' js,St W fs ι' H' s∧Ext W X ι0 h0 ι' s.heap∧Sub ι ι'∧(∀ b,Own W ι' b→Own W ι b∨b∈own)∧k js H'=true∧∀ (i:Nat) a,own[i]? = some a→∃ j:Nat,js[i]? = some j∧ι' j=some (a,a):=by
 induction own with
 | nil=>exact fun {ι H k} S E _ _ t=>⟨ι,H,[],S,E,Sub.refl _,fun U z=>.inl z,t,fun i a e=>by exact zns e⟩
 | cons a r ih =>
  intro ι H k S E hh nd t
  have t:bM H (.cell .unset) (fun i h=>aR r.length h fun l h=>k (i :: l) h)=true:=t
  rw[aT] at t
  refine aA5 (fun nb no nf g n0=>?_) (hh a (.head _))
  have S1:=S.adopt (o:=.cell .unset) nb no nf g (TC.ne rfl) fun U=>⟨rfl,_,none,g,rfl,rfl,.inl rfl⟩
  have E1:=E.adopt S.unused n0
  obtain⟨ι2,H2,js,S2,E2,su,ow,t,at_⟩:=ih S1 E1 (fun b m=>by
   refine aA5 (fun b1 b2 b3 b4 b5=>?_) (hh b (.tail _ m))
   refine⟨b1,fun z=>?_,b3,b4,b5⟩
   have ne:b≠a:=fun z=>(List.nodup_cons.mp nd).1 (z▸m)
   rcases bF z with z | z | z
   ·exact b2 z
   ·exact ne z
   ·exact ne z) (List.nodup_cons.mp nd).2 t
  refine⟨ι2,H2,H.n :: js,S2,E2,(aN S.unused).trans su,fun b z=>?_,t,fun i x e=>?_⟩
  ·rcases ow b z with z | z
   ·rcases bF z with z | z | z
    ·exact .inl z
    ·exact .inr (by rw[show b=a from z];exact .head _)
    ·exact .inr (by rw[show b=a from z];exact .head _)
   ·exact .inr (.tail _ z)
  ·cases i with
   | zero=>simp only[List.getElem?_cons_zero,Option.some.injEq] at e;subst e;exact⟨H.n,rfl,su _ _ (ao _ _ _)⟩
   | succ i=>simp only[List.getElem?_cons_succ] at e ⊢;exact at_ i x e
end
noncomputable def bindAll (r:Rt):List CT→List Vl→Fm→Hp→KF→Bool
 | [],[],f,h,k=>k f h
 | t :: ts,v :: vs,f,h,k=>t r f v h (fun f h=>bindAll r ts vs f h k) fun U U U=>false
 | _,_,_,_,_=>false
def Tame (t:CT):Prop:=∀ (r:Rt)(f:Fm)(x:Vl)(h:Hp)(k:KF),t r f x h k (fun U U U=>false)=true→∃ f' h',k f' h'=true
theorem yo (i:Nat):Tame (cV i):=fun r f x h k t=>⟨_,_,dh t⟩
theorem vL (i:Nat):Tame (nF i):=fun r f x h k t=>by
 refine bC fun G=>?_;refine eE1 (fun j=>aA2 fun g t=>?_) (fG t)
 refine eE1 (fun o0=>aA2 fun g0 t=>?_) (af t)
 cases o0<;>first | exact nf t | exact ns t | skip
 have t:aX h j (.cell x) (fun h=>k f h)=true:=t
 rw[bl] at t
 apply G;exact⟨_,_,t⟩
theorem oF (r:Rt)(k:KF):∀ (ps:List CT)(df:List Vl)(f:Fm)(h:Hp),df.length≤ps.length→jk r ps df f h k=bindAll r ps df f h k
 | [],[],f,h,_=>rfl
 | [],_ :: _,f,h,e=>by cases e
 | t :: ts,[],f,h,_=>rfl
 | t :: ts,v :: vs,f,h,e=>by
  show t r f v h (fun f h=>jk r ts vs f h k) (fun U U U=>false)=t r f v h (fun f h=>bindAll r ts vs f h k) fun U U U=>false
  have:(fun f h=>jk r ts vs f h k)=fun f h=>bindAll r ts vs f h k:=funext fun f=>funext fun h=>oF r k ts vs f h (Nat.le_of_succ_le_succ e)
  rw[this]
theorem yd (r:Rt)(k:KF)(df:List Vl)(ps:List CT):∀ (l:List Vl)(f:Fm)(h:Hp),l.length≤ps.length→ps.length - l.length≤df.length→fc r ps l df f h k=bindAll r ps (l++df.drop (df.length - (ps.length - l.length))) f h k:=by
 induction ps with
 | nil =>
  intro l f h e _
  cases l with
  | cons _ _=>exact absurd e (Nat.not_succ_le_zero _)
  | nil=>show k f h=bindAll r [] (df.drop df.length) f h k;rw[List.drop_length];rfl
 | cons t ts ih =>
  intro l f h e e2
  cases l with
  | nil =>
   show jk r (t :: ts) (mj df (Nat.sub (eZ df) (Nat.succ (eZ ts)))) f h k=_
   rw[iw,eJ,eJ]
   exact oF r k _ _ f h (by rw[List.length_drop];exact Nat.le_of_eq (Nat.sub_sub_self e2))
  | cons v vs =>
   show t r f v h (fun f h=>fc r ts vs df f h k) (fun U U U=>false)=t r f v h (fun f h=>bindAll r ts (vs++df.drop (df.length - (ts.length+1 - (vs.length+1)))) f h k) fun U U U=>false
   rw[Nat.add_sub_add_right]
   exact congrArg (fun k=>t r f v h k fun U U U=>false) (funext fun f=>funext fun h=>ih vs f h (Nat.le_of_succ_le_succ e) (by rw[← Nat.add_sub_add_right ts.length 1];exact e2))
theorem mi {r:Rt}{k:KF}:∀ {ps:List CT}{df:List Vl}{f:Fm}{h:Hp},(∀ t∈ps,Tame t)→jk r ps df f h k=true→ps.length≤df.length
 | [],_,_,_,_,_=>Nat.zero_le _
 | t :: ts,[],f,h,_,q=>by exact ft q
 | t :: ts,v :: vs,f,h,tm,q=>by
  refine eE2 (fun f' h' q=>?_) (tm t (.head _) r f v h (fun f h=>jk r ts vs f h k) q)
  exact Nat.succ_le_succ (mi (fun t m=>tm t (.tail _ m)) q)
theorem uQ {ps:List CT}:∀ {l:List Vl}{f:Fm}{h:Hp},(∀ t∈ps,Tame t)→fc r ps l df f h k=true→l.length≤ps.length∧ps.length - l.length≤df.length:=by
 induction ps with
 | nil =>
  intro l f h _ q
  cases l with
  | nil=>exact⟨Nat.le_refl _,Nat.zero_le _⟩
  | cons _ _=>exact ft q
 | cons t ts ih =>
  intro l f h tm q
  cases l with
  | nil =>
   refine⟨Nat.zero_le _,?_⟩
   have q:jk r (t :: ts) (mj df (Nat.sub (eZ df) (Nat.succ (eZ ts)))) f h k=true:=q
   have:=mi tm q
   rw[iw,List.length_drop] at this
   exact Nat.le_trans this (Nat.sub_le _ _)
  | cons v vs =>
   refine eE2 (fun f' h' q=>?_) (tm t (.head _) r f v h (fun f h=>fc r ts vs df f h k) q)
   refine aA2 (fun a b=>?_) (ih (fun t m=>tm t (.tail _ m)) q)
   refine⟨Nat.succ_le_succ a,?_⟩
   show ts.length+1 - (vs.length+1)≤_
   rw[Nat.add_sub_add_right];exact b
section
variable {W:Wd}{sc:Sc}{r:Rt}{A:Around}{fs:List Env}{env:Env}{f f':Fm}{ι ι' ι0:Io}{H H':Hp}{s s' s2:Shared}{M:Model}{E:Value→Shared→Prop}
set_option tactic.hygienic true in
theorem set_slot {sc:Sc}(nd:sc.slots.Nodup){n:Str}{i:Nat}(hs:sc.slots[i]? = some n){ι ι':Io}{h h':Heap}{sl:List Vl}{m:Str→Option Value}{v:Value}{x:Vl}(rv:RV W ι' h' v x)(mono:∀ {v x},RV W ι h v x→RV W ι' h' v x)
  (hr:∀ (i:Nat)(n:Str)(x:Vl),sc.slots[i]? = some n→sl[i]? = some x→x = .unset∨∃ v,m n=some v∧RV W ι h v x) :
  ∀ (j:Nat)(n':Str)(y:Vl),sc.slots[j]? = some n'→(sl.set i x)[j]? = some y→y = .unset∨∃ w,(if n'=n then some v else m n')=some w∧RV W ι' h' w y:=fun j n' y e1 e2=>by
 by_cases q:j=i
 ·subst q
  rw[hs] at e1;replace e1:=ab e1;subst e1
  rw[List.getElem?_set] at e2
  split at e2
  ·split at e2
   ·replace e2:=ab e2;subst e2;exact .inr ⟨v,by simp,rv⟩
   ·exact zns e2
  ·rename_i z;exact absurd rfl z
 ·rw[List.getElem?_set_ne (Ne.symm q)] at e2
  have ne:n'≠n:=fun z=>q (by
   subst z
   obtain⟨l1,h1⟩:=List.getElem?_eq_some_iff.mp e1
   obtain⟨l2,h2⟩:=List.getElem?_eq_some_iff.mp hs
   have pw:=List.pairwise_iff_getElem.mp nd
   rcases Nat.lt_trichotomy j i with q | q | q
   ·exact absurd (h1.trans h2.symm) (pw j i l1 l2 q)
   ·exact q
   ·exact absurd (h2.trans h1.symm) (pw i j l2 l1 q))
  refine oO (fun z=>?_) (eE1 fun w=>aA2 fun hw rw_=>?_) (hr j n' y e1 e2)
  ·exact .inl z
  ·exact .inr ⟨w,by simp[ne,hw],mono rw_⟩
theorem qW (hk:env.scope.kind = .function)(hN:env.kindOf n=some .local)(nd:sc.slots.Nodup){i:Nat}(hs:sc.slots[i]? = some n)(S:St W fs ι H s)(F:aS W sc env ι s.heap f){v:Value}{x:Vl}(rv:RV W ι s.heap v x){k:KF}
  (t:k (.mk (f.s.set i x) f.c) H=true):wpAny M A (storeName env n v) (PF W sc fs env ι s k) E s:=by
 refine bC fun G=>?_;refine eE1 (fun m=>aA2 fun hm hr=>?_) (F.ns)
 apply G;refine wpAny_storeName_local hN hm (fun h' hm' sb=>?_) (by rw[hk];rfl)
 refine bC fun G=>?_;refine eE3 (fun o' es' ep'=>aA3 fun g' d' U=>?_) (id hm')
 obtain⟨S2,E2⟩:=S.other (b:=env.locals) F.nb F.no sb.extBut (fun o g=>⟨fun U q=>(by revert hm;refine eE3 fun o2 es2 ep2=>aA3 fun g2 d2 U=>?_;rw[g] at g2;replace g2:=ab g2;subst g2;exact q.dE d2),o',g',fun U=>⟨es',ep',d'⟩⟩) (tk:=s.toks+1) (dr:=s.drawn)
 apply G;exact⟨ι,H,Fm.mk (f.s.set i x) f.c,S2,E2,⟨F.no,F.nb,⟨_,hm',set_slot nd hs (rv.ext E2) (fun r=>r.ext E2) hr⟩,fun j n' e1 e2=>F.cells j n' e1 e2⟩,t⟩
set_option tactic.hygienic true in
theorem rj (hk:env.scope.kind = .function)(hN:env.kindOf n=some .cell)(hs:sc.cells[i]? = some n)(hn:sc.names.lookup n=some .cell)(S:St W fs ι H s)(F:aS W sc env ι s.heap f)(rv:RV W ι s.heap v x)
  (t:nF i r f x H k e=true):wpAny M A (storeName env n v) (PF W sc fs env ι s k) E s:=by
 refine bC fun G=>?_;refine eE1 (fun j=>aA2 fun g t=>?_) (fG t)
 refine eE1 (fun o0=>aA2 fun g0 t=>?_) (af t)
 cases o0<;>first | exact nf t | exact ns t | skip
 rename_i y0
 have t:aX H j (.cell x) (fun h=>k f h)=true:=t
 rw[bl] at t
 refine eE3 (fun j' a dd=>aA3 fun e1 e2 e3=>?_) (F.cells i n hs (.inl hn))
 rw[g] at e1;replace e1:=ab e1;subst e1
 obtain⟨eq,o,ov,g1,c1,d1,_⟩:=S.ro e2 g0
 cases eq
 apply G;unfold storeName
 simp only[hN,hk]
 refine wpAny_bind (wpAny_cellOf e3 ?_)
 unfold cellSet
 refine wpAny_bind (wpAny_load g1 ?_)
 rw[d1]
 refine wpAny_update g1 ?_
 have g2:=Heap.get?_update_self (fun o:Obj=>{ o with data:=.cell (some v) }) g1 rfl
 obtain⟨S2,E2⟩:=S.upd (o:=.cell x) e2 (.inl rfl) (Heap.SameBut.update ..) ⟨_,g2⟩ (fun tk=>⟨rfl,_,some v,g2,c1,rfl,.inr ⟨v,rfl,rv.mono (Sub.refl _) tk⟩⟩) (tk:=s.toks) (dr:=s.drawn)
 exact⟨ι,_,f,S2,E2.atl,F.ext E2 id,t⟩
inductive iE (sc:Sc):List Str→List CT→Prop
 | nil:iE sc [] []
 | loc {n i ns ts}:sc.slots[i]? = some n→sc.names.lookup n=some .local→iE sc ns ts→iE sc (n :: ns) (cV i :: ts)
 | cel {n i ns ts}:sc.cells[i]? = some n→sc.names.lookup n=some .cell→iE sc ns ts→iE sc (n :: ns) (nF i :: ts)
theorem iE.IH {ns ts}(p:iE sc ns ts):∀ t∈ts,Tame t:=by
 induction p with
 | nil=>exact fun U m=>nomatch m
 | loc _ _ r ih =>
  intro t m
  rcases List.mem_cons.mp m with rfl | m
  ·exact yo _
  ·exact ih t m
 | cel _ _ r ih =>
  intro t m
  rcases List.mem_cons.mp m with rfl | m
  ·exact vL _
  ·exact ih t m
theorem iE.length {ns ts}(p:iE sc ns ts):ns.length=ts.length :=
 iE.rec (motive:=fun ns ts U=>ns.length=ts.length) rfl (fun U U U ih=>congrArg (·+1) ih) (fun U U U ih=>congrArg (·+1) ih) p
theorem vg (hk:env.scope.kind = .function)(hN:env.scope.names=sc.names)(nd:sc.slots.Nodup)(g:Str × Value→PUnit→Sem (ForInStep PUnit))(hg:∀ n v u,g (n,v) u=(do storeName env n v;pure (.yield ⟨⟩))) :
  ∀ {ns:List Str}{ts:List CT},iE sc ns ts→∀ {ws:List Value}{xs:List Vl}{ι:Io}{H:Hp}{f:Fm}{s:Shared}{k:KF},St W fs ι H s→aS W sc env ι s.heap f→RVs W ι s.heap ws xs→bindAll r ts xs f H k=true →
   wpAny M A (forIn (ns.zip ws) ⟨⟩ g) (fun(_:PUnit)=>PF W sc fs env ι s k ()) E s:=by
 intro ns ts p
 induction p with
 | nil =>
  intro ws xs ι H f s k S F rv t
  cases xs with
  | nil=>cases rv;exact wpAny_pure ⟨ι,H,f,S,.refl,F,t⟩
  | cons _ _=>exact ft t
 | @loc n i ns ts h1 h2 p ih =>
  intro ws xs ι H f s k S F rv t
  cases rv with
  | nil=>exact ft t
  | cons a b =>
   rw[List.zip_cons_cons,List.forIn_cons,hg]
   refine wpAny_bind (wpAny_bind (wpAny_mono (qW (E:=E) hk (by unfold Env.kindOf;rw[hN];exact h2) nd h1 S F a (dh t)) (fun U s1 P=>?_) fun U U z=>z))
   obtain⟨ι1,H1,f1,S1,E1,F1,t⟩:=P
   exact wpAny_pure (wpAny_mono (ih S1 F1 (b.ext E1) t) (fun U U z=>z.from E1) fun U U z=>z)
 | @cel n i ns ts h1 h2 p ih =>
  intro ws xs ι H f s k S F rv t
  cases rv with
  | nil=>exact ft t
  | cons a b =>
   rw[List.zip_cons_cons,List.forIn_cons,hg]
   refine wpAny_bind (wpAny_bind (wpAny_mono (rj (E:=E) hk (by unfold Env.kindOf;rw[hN];exact h2) h1 h2 S F a t) (fun U s1 P=>?_) fun U U z=>z))
   obtain⟨ι1,H1,f1,S1,E1,F1,t⟩:=P
   exact wpAny_pure (wpAny_mono (ih S1 F1 (b.ext E1) t) (fun U U z=>z.from E1) fun U U z=>z)
end
theorem kM {x:Vl}:∀ (k i:Nat),(aM k)[i]? = some x→x = .unset
 | 0,i,e=>by exact zns e
 | k+1,0,e=>by injection e with e;exact e.symm
 | k+1,i+1,e=>kM k i e
theorem zZ (l m:List Nat):jn l m=l++m:=by
 induction l with
 | nil=>rfl
 | cons a r ih=>exact congrArg (a :: ·) ih
structure eO (W:Wd)(sc:Sc)(fd:FuncData)(free own pn:List Str)(ns nc:Nat)(ps:List CT)(df:List Vl)(b:CS):Prop where
 co:fd.scope.isCoroutine=false
 gen:fd.scope.isGenerator=false
 kind:fd.scope.kind = .function
 names:fd.scope.names=sc.names
 gl:fd.globals=mainGlobals
 bi:fd.builtins=builtinsNs
 code:∀ q,sc.code=some q→fd.code = .ref q.1∧fd.qualname++".<locals>." = q.2
 nd:sc.slots.Nodup
 par:iR fd.params pn
 Cc:iE sc pn ps
 FQ:df.length≤pn.length
 cells:sc.cells=free++own
 nc:own.length=nc
 C9:own.Nodup
 zl:∀ n∈own,sc.names.lookup n=some .cell
 how:(own=[]∧∀ x∈fd.scope.names,x.2≠.cell)∨(free=[]∧fd.closure=[])
 dflt:∀ (ι:Io)(s:Shared),W.K.In s.heap→(∀ b,Own W ι b→W.base.get? b=none)→∃ od ds,(∀ (A:Around)(E:Value→Shared→Prop)(Q:Option (Array Value)→Shared→Prop),Q od s→wpAny (model W.prog W.w) A (seqItems? fd.defaults) Q E s)∧(od.getD #[]).toList=ds∧RVs W ι s.heap ds df
 body:(∃ bd,fd.body = .stmts bd∧SSs W sc b bd)∨∃ e x,fd.body = .expr e∧b=kg x∧SX W sc x e
section
variable {W:Wd}{sc:Sc}{fd:FuncData}{free own pn:List Str}{ns nc:Nat}{ps:List CT}{df:List Vl}{b:CS}{r:Rt}{A:Around}{fs:List Env}{ι:Io}{H:Hp}{s:Shared}{E:Value→Shared→Prop}
inductive ud (W:Wd)(sc:Sc)(fs:List Env)(ι:Io)(s:Shared)(k:KF)(env:Env)(s2:Shared):Prop where
 | mk (f':Fm)(ι':Io)(H':Hp)(S:St W (env :: fs) ι' H' s2)(E:Ext W noX ι s.heap ι' s2.heap)(F:aS W sc env ι' s2.heap f')(eo:bR W sc env (env :: fs))(n:s.heap.get? env.locals=none)(t:k f' H'=true)
theorem iN (e:eO W sc fd free own pn ns nc ps df b)(S:St W fs ι H s)(hj:js=[]∨own=[])(hc:∀ (i:Nat)(n:Str),free[i]? = some n→∃ a j d,fd.closure.lookup n=some a∧js[i]? = some j∧ι j=some (a,d))
  (rv:RVs W ι s.heap ws xs)(t:aR nc H (fun cs h=>bindAll r ps xs (.mk (aM ns) (jn js cs)) h k)=true) :
  wpAny (model W.prog W.w) A (newFunctionEnv fd.scope fd.globals fd.closure (pn.zip ws) (fd.qualname++".<locals>.") (some a) fd.code none fd.builtins) (fun env s2=>s2.heap.NoLimit∧ud W sc fs ι s k env s2) E s:=by
 simp only[newFunctionEnv,Option.isSome_none,Bool.false_eq_true,if_false]
 refine wpAny_bind (wpAny_alloc ?_)
 refine wpAny_bind (wpAny_layCells _ (fun name kind cells=>by cases hkc:kind == NameKind.cell<;>simp[hkc]) _ _ _ _ ?_)
 have K1:=aj s.heap { cls:=.type "frame",data:=.dict #[] }
 have g1:=Heap.get?_push_size s.heap (o:={ cls:=.type "frame",data:=.dict #[] }) rfl
 have sz:(s.heap.push { cls:=.type "frame",data:=.dict #[] }).objs.size=s.heap.objs.size+1:=Heap.size_push ..
 generalize hh1:s.heap.push { cls:=.type "frame",data:=.dict #[] }=h1 at *
 have K2:=pushCells_keeps fd.scope.names h1
 have K12:∀ b o,s.heap.get? b=some o→(pushCells h1 fd.scope.names).get? b=some o:=fun b o g=>K2 b o (K1 b o g)
 have hm:(pushCells h1 fd.scope.names).Ns s.heap.objs.size (fun U=>none):=⟨_,#[],_,K2 _ _ g1,rfl,(fun U z=>absurd z (by simp)),fun U=>rfl⟩
 have L0:s.heap.get? s.heap.objs.size=none:=aw (Nat.le_refl _)
 have LO:¬ Own W ι s.heap.objs.size:=S.fv L0
 have LB:=S.dg L0
 obtain⟨ad,la,nda,hown,hfree⟩:∃ ad:List Addr,ad.length=own.length∧ad.Nodup∧(∀ (i:Nat) n,own[i]? = some n→∃ c,ad[i]? = some c∧(cellsFrom h1.objs.size fd.scope.names fd.closure).lookup n=some c) ∧
   (∀ n∈free,(cellsFrom h1.objs.size fd.scope.names fd.closure).lookup n=fd.closure.lookup n)∧(∀ c∈ad,h1.objs.size≤c∧(pushCells h1 fd.scope.names).get? c=some ip):=by
  rcases e.how with ⟨rfl,nn⟩| ⟨rfl,cl⟩
  ·refine⟨[],rfl,List.nodup_nil,fun i n z=>(by exact zns z),fun n U=>by rw[(kS _ h1 _ _ nn).1],fun c z=>by cases z⟩
  ·rw[cl]
   have ok:=cellsFrom_ok fd.scope.names h1 h1.objs.size [] ⟨fun U U z=>(by cases z),.nil⟩ (Nat.le_refl _)
   have ob:=vJ fd.scope.names h1 [] fun U z=>by cases z
   have lk:∀ n∈own,∃ c,(cellsFrom h1.objs.size fd.scope.names []).lookup n=some c:=fun n m=>by
    have:=cellsFrom_some fd.scope.names h1.objs.size [] (x:=n) (.inl (by rw[e.names];exact e.zl n m))
    exact Option.isSome_iff_exists.mp this
   have gd:∀ n∈own,(cellsFrom h1.objs.size fd.scope.names []).lookup n=some (((cellsFrom h1.objs.size fd.scope.names []).lookup n).getD 0):=fun n m=>by
    obtain⟨c,hc⟩:=lk n m
    rw[hc];rfl
   refine⟨own.map fun n=>((cellsFrom h1.objs.size fd.scope.names []).lookup n).getD 0,List.length_map ..,?_,fun i n z=>⟨_,by rw[List.getElem?_map,z];rfl,gd n (List.mem_of_getElem? z)⟩,fun n z=>(by cases z),fun c z=>?_⟩
   ·refine(List.pairwise_map.mpr ?_)
    refine e.C9.imp_of_mem fun {x y} mx my ne z=>ne ?_
    exact name_of_addr ok.apart (mem_of_lookup (gd x mx)) (z▸mem_of_lookup (gd y my))
   ·refine eE1 (fun n=>aA2 fun m z2q2=>?_) (List.mem_map.mp z);obtain rfl:=z2q2
    have:=mem_of_lookup (gd n m)
    exact⟨(ok.empty _ _ this).2,ob _ this⟩
 refine bC fun G=>?_;obtain⟨hfree,had⟩:=hfree
 have S1:=S.keeps K12 (tk:=s.toks) (dr:=s.drawn)
 have t':aR ad.length H (fun cs h=>bindAll r ps xs (.mk (aM ns) (jn js cs)) h k)=true:=by rw[la,e.nc];exact t
 have n0:∀ c∈ad,s.heap.get? c=none:=fun c m=>aw (by have:=(had c m).1;rw[sz] at this;exact fS this (by simp +arith only))
 apply G;obtain⟨ι2,H2,cs,S2,E2,su,ow,t2,at_⟩:=oV (s:=⟨pushCells h1 fd.scope.names,s.gens,s.drawn,s.toks,s.os⟩) (h0:=s.heap) (X:=noX) (ι0:=ι) ad S1 (.of_keeps K12) (fun c m=>by
  refine⟨S.dg (n0 c m),S.fv (n0 c m),fun z=>?_,(had c m).2,n0 c m⟩
  obtain⟨o,g⟩:=S.lh z
  rw[n0 c m] at g;exact zns g) nda t'
 have no2:¬ Own W ι2 s.heap.objs.size:=fun z=>by
  rcases ow _ z with z | z
  ·exact LO z
  ·have:=(had _ z).1;rw[sz] at this;exact Nat.not_succ_le_zero 0 (fS this (by simp +arith only))
 rw[zZ] at t2
 let env:Env:=newEnv fd.scope s.heap.objs.size fd.globals (cellsFrom h1.objs.size fd.scope.names fd.closure) (fd.qualname++".<locals>.") (some a) fd.code none fd.builtins
 have S3:St W (env :: fs) ι2 H2 ⟨pushCells h1 fd.scope.names,s.gens,s.drawn,s.toks,s.os⟩:=S2.enter (env:=env) rfl e.kind hm LB no2
 have F3:aS W sc env ι2 (pushCells h1 fd.scope.names) (.mk (aM ns) (js++cs)):=by
  refine⟨no2,LB,⟨_,hm,fun i n x U z=>.inl (kM ns i z)⟩,fun i n e1 hn=>?_⟩
  rw[e.cells] at e1
  rcases Nat.lt_or_ge i free.length with lt | ge
  ·rw[List.getElem?_append_left lt] at e1
   refine eE3 (fun c j d=>aA3 fun h1' h2 h3=>?_) (hc i n e1)
   refine⟨j,c,d,?_,su _ _ h3,?_⟩
   ·show(js++cs)[i]? = some j
    rw[List.getElem?_append_left (List.getElem?_eq_some_iff.mp h2).1];exact h2
   ·show(cellsFrom _ _ _).lookup n=some c
    rw[hfree n (List.mem_of_getElem? e1)];exact h1'
  ·rw[List.getElem?_append_right ge] at e1
   rcases hj with rfl | rfl
   ·have:free=[]:=by
     rcases e.how with ⟨rfl,_⟩| ⟨h,_⟩
     ·exact zns e1
     ·exact h
    subst this
    refine eE1 (fun c=>aA2 fun h1' h2=>?_) (hown i n (by simpa using e1))
    refine eE1 (fun j=>aA2 fun h3 h4=>?_) (at_ i c h1')
    refine⟨j,c,c,?_,h4,h2⟩
    show([]++cs)[i]? = some j
    simpa using h3
   ·exact zns e1
 have eo:bR W sc env (env :: fs):=⟨e.names,e.kind,e.gl,e.bi,⟨_,env,fs,rfl,rfl,rfl⟩,fun q hq=>e.code q hq⟩
 refine wpAny_bind (wpAny_mono (vg (env:=env) e.kind e.names e.nd _ (fun U U U=>rfl) e.Cc S3 F3 (rv.ext E2) t2) (fun U s4 P=>wpAny_pure ?_) fun U U z=>z)
 refine bC fun G=>?_;obtain⟨ι4,H4,f4,S4,E4,F4,t4⟩:=P
 have E5:Ext W noX ι s.heap ι4 s4.heap:=((E2.weaken fun U z=>z.elim).trans E4).drop fun b z=>.inr (by rw[show b=s.heap.objs.size from z];exact L0)
 apply G;exact⟨S4.lim,f4,ι4,H4,S4,E5,F4,eo,L0,t4⟩
end
theorem f9:∀ (n:Nat){H:Hp}{k:List Nat→Hp→Bool},aR n H k=true→∃ cs H',k cs H'=true
 | 0,H,k,t=>⟨[],H,t⟩
 | n+1,H,k,t=>by
  have t:bM H (.cell .unset) (fun i h=>aR n h fun l h=>k (i :: l) h)=true:=t
  rw[aT] at t
  refine eE2 (fun cs H' t=>?_) (f9 n t)
  exact⟨_,_,t⟩
section
variable {W:Wd}{sc:Sc}{fd:FuncData}{free own pn:List Str}{ns nc:Nat}{ps:List CT}{df:List Vl}{b:CS}{r:Rt}{d:Nat}{A:Around}{fs:List Env}{env:Env}{ι:Io}{H:Hp}{s s2:Shared}
theorem Arc.deep (ar:Arc A fs (d+1))(env:Env):Ar (A.deeper env) (env :: fs) d:=by
 refine⟨ar.handled,Around.frames_deeper ar.frames,?_,?_⟩
 ·have:=ar.depth
  show A.depth+1+2 * d≤990
  rw[Nat.add_assoc,Nat.add_comm 1]
  exact Nat.le_of_succ_le_succ this
 ·have:=ar.units
  show A.units+3+8 * d+4≤9800
  omega
theorem AG (E0:Ext W noX ι s.heap ι2 s2.heap)(n0:s.heap.get? env.locals=none)(P:PS W sc (env :: fs) env ι2 s2 (fun U h=>k .none h) (fun U U=>false) k fl s3) :
  PX W fs noX ι s k (match (generalizing:=false) fl with | .ret v=>v | _=>.none) s3:=by
 obtain⟨ι3,H3,f3,S3,E3,F3,t⟩:=P
 have E:Ext W noX ι s.heap ι3 s3.heap:=((E0.weaken fun U z=>z.elim).trans E3).drop fun b z=>.inr (by rw[show b=env.locals from z];exact n0)
 cases fl with
 | next=>exact⟨ι3,H3,.none,S3.exit,E,.none,t⟩
 | cont=>cases t
 | brk=>exact t.elim
 | ret v=>revert t;refine eE1 fun x=>aA2 fun rv t=>?_;exact⟨ι3,H3,x,S3.exit,E,rv,t⟩
theorem pa {A:Around}{v:Value}{e:KE}{ι2:Io}{s3:Shared}{R:Result→Shared→Prop}(eo:bR W sc env (env :: fs))(hfr:A.frames=some (env :: fs))(E0:Ext W noX ι s.heap ι2 s2.heap)(n0:s.heap.get? env.locals=none)(P:PXE W sc (env :: fs) env ι2 s2 (fun i U h=>e i h) v s3)
  (hR:∀ s',PE W fs noX ι s e v s'→R (.error v) s'):wpAny (model W.prog W.w) A (leaving env v) (fun U s''=>R (.error v) s'') (fun e' s''=>R (.error e') s'') s3:=by
 obtain⟨ι3,H3,f3,i,p,rfl,ep,S3,E3,F3,t,q⟩:=P
 have E:Ext W (atL env) ι s.heap ι3 s3.heap:=(E0.weaken fun U z=>z.elim).trans E3
 refine leave eo hfr S3 E ep (t.from E0) fun s4 S4 E4 t4=>hR s4 ⟨ι3,H3,i,p,rfl,ep,S4.exit,?_,t4,q⟩
 exact(E.way E4).drop fun b z=>.inr (by rw[show b=env.locals from z];exact n0)
theorem qM (e:eO W sc fd free own pn ns nc ps df b)(t:kG r js (.mk ns nc ps df b) xs H k ke=true) :
  xs.length≤pn.length∧pn.length - xs.length≤df.length∧aR nc H (fun cs h=>bindAll r ps (xs++df.drop (df.length - (pn.length - xs.length))) (.mk (aM ns) (jn js cs)) h fun f h=>b r f h (fun U h=>k .none h) (fun U U=>false) k fun i U h=>ke i h)=true:=by
 have t:aR nc H (fun cs h=>fc r ps xs df (.mk (aM ns) (jn js cs)) h fun f h=>b r f h (fun U h=>k .none h) (fun U U=>false) k fun i U h=>ke i h)=true:=t
 refine bC fun G=>?_;refine eE2 (fun cs H' q=>?_) (f9 nc t)
 obtain⟨l1,l2⟩:=uQ e.Cc.IH q
 have ln:=e.Cc.length
 apply G;rw[ln]
 refine⟨l1,l2,?_⟩
 rw[← t]
 congr 1
 funext cs h
 exact(yd r _ df ps xs _ h l1 l2).symm
theorem fK (e:eO W sc fd free own pn ns nc ps df b)(hroom:A.depth < recursionLimit)(S:St W fs ι H s){a:Addr}{o:Obj}(ho:s.heap.get? a=some o)(hd:o.data = .func fd)(hcd:s.heap.CodeRec fd.code fd.qualname)
  {js:List Nat}(hj:js=[]∨own=[])(hc:∀ (i:Nat)(n:Str),free[i]? = some n→∃ a j d,fd.closure.lookup n=some a∧js[i]? = some j∧ι j=some (a,d))
  {vs:List Value}{xs:List Vl}(rv:RVs W ι s.heap vs xs){K:KF}(l1:xs.length≤pn.length)(l2:pn.length - xs.length≤df.length)(t:aR nc H (fun cs h=>bindAll r ps (xs++df.drop (df.length - (pn.length - xs.length))) (.mk (aM ns) (jn js cs)) h K)=true)
  {bd:List Stmt}(hb:fd.body = .stmts bd){R:Result→Shared→Prop}(hR:∀ env s2,ud W sc fs ι s K env s2→codeAny (model W.prog W.w) A (.func bd env) R s2):codeAny (model W.prog W.w) A (.call (.ref a) ⟨vs,[]⟩) R s:=by
 refine eE2 (fun od ds=>aA3 fun hds hod rd=>?_) (e.dflt ι s S.ground fun b ob=>(S.fresh b ob).1)
 have lv:=rv.length
 have ld:=rd.length
 have rv2:RVs W ι s.heap (vs++ds.drop (ds.length - (pn.length - vs.length))) (xs++df.drop (df.length - (pn.length - xs.length))):=by
  rw[lv,ld]
  exact rv.append (rd.drop _)
 refine codeAny_call_function hroom ho hd e.co e.gen hb hcd (dK e.par (hds ·) hod (by rw[lv];exact l1) (by rw[ld];exact e.FQ) (by rw[lv,ld];omega) (wpAny_mono (iN (E:=fun e s'=>R (.error e) s') e S hj hc rv2 t) (fun env s2 P=>?_) fun U U z=>z))
 exact⟨P.1,hR env s2 P.2⟩
theorem enter (e:eO W sc fd free own pn ns nc ps df b)(rt:lT W r d)(ar:Arc A fs (d+1))(S:St W fs ι H s)(ho:s.heap.get? a=some o)(hd:o.data = .func fd)(hcd:s.heap.CodeRec fd.code fd.qualname)
  (hj:js=[]∨own=[])(hc:∀ (i:Nat)(n:Str),free[i]? = some n→∃ a j d,fd.closure.lookup n=some a∧js[i]? = some j∧ι j=some (a,d))
  (rv:RVs W ι s.heap vs xs)(t:kG r js (.mk ns nc ps df b) xs H k ke=true) :
  codeAny (model W.prog W.w) A (.call (.ref a) ⟨vs,[]⟩) (RC (PX W fs noX ι s k) (PE W fs noX ι s ke)) s:=by
 refine bC fun G=>?_;refine aA3 (fun l1 l2 t=>?_) (qM e t)
 refine eE2 (fun od ds=>aA3 fun hds hod rd=>?_) (e.dflt ι s S.ground fun b ob=>(S.fresh b ob).1)
 have lv:=rv.length
 have ld:=rd.length
 have hroom:A.depth < recursionLimit:=by
  have:=ar.depth
  exact Nat.lt_of_le_of_lt (Nat.le_trans (Nat.le_add_right _ _) this) (show 991 < 1000 by decide)
 have rv2:RVs W ι s.heap (vs++ds.drop (ds.length - (pn.length - vs.length))) (xs++df.drop (df.length - (pn.length - xs.length))):=by
  rw[lv,ld]
  exact rv.append (rd.drop _)
 have go:∀ {Q:List (Str × Value)→Shared→Prop}{E:Value→Shared→Prop},Q (pn.zip (vs++ds.drop (ds.length - (pn.length - vs.length)))) s→wpAny (model W.prog W.w) A.in1 (bindArgs fd ⟨vs,[]⟩) Q E s:=fun q =>
  dK e.par (hds ·) hod (by rw[lv];exact l1) (by rw[ld];exact e.FQ) (by rw[lv,ld];omega) q
 rcases e.body with ⟨bd,hb,hs⟩| ⟨ex,x,hb,rfl,hx⟩
 ·apply G;refine codeAny_call_function hroom ho hd e.co e.gen hb hcd (go (wpAny_mono (iN (E:=fun e s'=>RC (PX W fs noX ι s k) (PE W fs noX ι s ke) (.error e) s') e S hj hc rv2 t) (fun env s2 P=>?_) fun U U z=>z))
  refine bC fun G=>?_;obtain⟨lim,f2,ι2,H2,S2,E2,F2,eo,n0,t2⟩:=P
  apply G;refine⟨lim,codeAny_func ?_⟩
  refine wpAny_mono (hs r d (A.deeper env) (env :: fs) env f2 ι2 H2 s2 _ _ _ _ ⟨rt,ar.deep env,eo,F2,S2⟩ t2) (fun fl s3 P=>AG E2 n0 P) fun v s3 P=>?_
  exact pa (R:=RC (PX W fs noX ι s k) (PE W fs noX ι s ke)) eo (ar.deep env).frames E2 n0 P fun s' z=>z
 ·apply G;refine kla_callFunE hroom ho hd e.co e.gen hb hcd (go (wpAny_mono (iN (E:=fun e s'=>RC (PX W fs noX ι s k) (PE W fs noX ι s ke) (.error e) s') e S hj hc rv2 t) (fun env s2 P=>?_) fun U U z=>z))
  refine bC fun G=>?_;obtain⟨lim,f2,ι2,H2,S2,E2,F2,eo,n0,t2⟩:=P
  apply G;refine⟨lim,kla_codeExpr ?_⟩
  have h2:Here W sc r d (A.deeper env) (env :: fs) env f2 ι2 H2 s2:=⟨rt,ar.deep env,eo,F2,S2⟩
  refine wpAny_mono (hx r d (A.deeper env) (env :: fs) env f2 ι2 H2 s2 k (fun i h=>ke i h) h2 t2) (fun v s3 P=>?_) fun v s3 P=>?_
  ·refine bC fun G=>?_;obtain⟨ι3,H3,x3,S3,E3,rv3,t3⟩:=P
   apply G;exact⟨ι3,H3,x3,S3.exit,E2.trans E3,rv3,t3⟩
  ·exact pa (sc:=sc) (R:=RC (PX W fs noX ι s k) (PE W fs noX ι s ke)) eo (ar.deep env).frames E2 n0 (PE.px F2 P) fun s' z=>z
end
theorem ai (h:(@Bool.rec (fun U=>Bool) false x c)=true):c=true∧x=true:=by cases c with | true=>exact⟨rfl,h⟩| false=>exact ft h
theorem vo (h:eqB i j=true):i=j:=by
 cases i<;>cases j<;>first | exact nf h | exact ns h | exact congrArg _ (aD h)
set_option tactic.hygienic true in
theorem dY:∀ {b:Vl},vEq a b=true→a=b:=by
 refine Vl.rec (motive_1:=fun a=>∀ {b:Vl},vEq a b=true→a=b) (motive_2:=fun l=>∀ {m:List Vl},vEq (.tup l) (.tup m)=true→l=m) ?_ ?_ ?_ ?_ ?_ ?_ ?_ ?_ ?_ ?_ ?_ ?_ ?_ ?_ ?_ ?_ a
 ·intro b h;cases b<;>first | exact nf h | rfl
 ·intro s b h;cases b<;>first | exact nf h | (rename_i t;cases s<;>cases t<;>first | rfl | exact nf h)
 ·intro i b h;cases b<;>first | exact nf h | exact congrArg _ (vo h)
 ·intro i b h;cases b<;>first | exact nf h | exact congrArg _ (aD h)
 ·intro i b h;cases b<;>first | exact nf h | exact congrArg _ (aD h)
 ·intro l ih b h;cases b<;>first | exact nf h | exact congrArg _ (ih h)
 ·intro i b h;cases b<;>first | exact nf h | exact congrArg _ (aD h)
 ·intro i b h;cases b<;>first | exact nf h | exact congrArg _ (aD h)
 ·intro i b h;cases b<;>first | exact nf h | exact congrArg _ (aD h)
 ·intro i b h;cases b<;>first | exact nf h | exact congrArg _ (aD h)
 ·intro b h;cases b<;>first | exact nf h | rfl
 ·intro b h;cases b<;>first | exact nf h | rfl
 ·intro b h;cases b<;>first | exact nf h | rfl
 ·intro t w n j b h
  cases b<;>first | exact nf h | skip
  rename_i t2 w2 n2 j2
  obtain⟨h1,h⟩:=ai (c:=Nat.beq t t2) h
  obtain⟨h2,h⟩:=ai (c:=Nat.beq w w2) h
  obtain⟨h3,h4⟩:=ai (c:=Nat.beq n n2) h
  rw[aD h1,aD h2,aD h3,aD h4]
 ·intro m h
  cases m with
  | nil=>rfl
  | cons _ _=>exact nf h
 ·intro x r ih1 ih2 m h
  cases m with
  | nil=>exact nf h
  | cons y m =>
   obtain⟨h1,h2⟩:=ai (c:=vEq x y) h
   rw[ih1 h1,ih2 h2]
theorem v3:∀ {m:List Vl},lEq vEq l m=true→l=m:=by
 induction l with
 | nil=>intro m h;cases m with
  | nil=>rfl
  | cons _ _=>exact nf h
 | cons x r ih=>intro m h;cases m with
  | nil=>exact nf h
  | cons y m =>
   obtain⟨h1,h2⟩:=ai (c:=vEq x y) h
   rw[dY h1,ih h2]
theorem kH:∀ {m:List (Nat × Vl)},pEq l m=true→l=m:=by
 induction l with
 | nil=>intro m h;cases m with
  | nil=>rfl
  | cons _ _=>exact nf h
 | cons p r ih=>intro m h;cases m with
  | nil=>exact nf h
  | cons q m =>
   obtain⟨a,x⟩:=p
   obtain⟨b,y⟩:=q
   obtain⟨h1,h⟩:=ai (c:=Nat.beq a b) h
   obtain⟨h2,h3⟩:=ai (c:=vEq x y) h
   rw[aD h1,dY h2,ih h3]
theorem wg:∀ {m:List Nat},nEq l m=true→l=m:=by
 induction l with
 | nil=>intro m h;cases m with
  | nil=>rfl
  | cons _ _=>exact nf h
 | cons x r ih=>intro m h;cases m with
  | nil=>exact nf h
  | cons y m =>
   obtain⟨h1,h2⟩:=ai (c:=Nat.beq x y) h
   rw[aD h1,ih h2]
set_option tactic.hygienic true in
theorem zd (h:oEq a b=true):a=b:=by
 cases a with
 | list l=>cases b<;>first | exact nf h | exact ns h | exact congrArg _ (v3 h)
 | dict l=>cases b<;>first | exact nf h | exact ns h | exact congrArg _ (kH h)
 | inst c l =>
  cases b<;>first | exact nf h | exact ns h | skip
  rename_i d m
  obtain⟨h1,h2⟩:=ai (c:=Nat.beq c d) h
  rw[aD h1,kH h2]
 | cell x=>cases b<;>first | exact nf h | exact ns h | exact congrArg _ (dY h)
 | cL f l =>
  cases b<;>first | exact nf h | exact ns h | skip
  rename_i d m
  obtain⟨h1,h2⟩:=ai (c:=Nat.beq f d) h
  rw[aD h1,wg h2]
 | eW=>cases b<;>first | rfl | exact nf h
theorem vw:∀ {t2:Tri Ob},DP t t2=true→∀ (k:Nat)(o:Ob),t.get k=some o→t2.get k=some o:=by
 induction t with
 | nil=>intro _ _ k o e;rw[Tri.get_nil] at e;exact ns e
 | node a l r ihl ihr =>
  intro t2 h k o e
  cases t2 with
  | nil=>exact nf h
  | node a2 l2 r2 =>
   obtain⟨h1,h⟩:=ai (c:=(@Option.rec Ob (fun U=>Bool) (true) (fun x=>(@Option.rec Ob (fun U=>Bool) (false) (fun y=>oEq x y) a2)) a)) h
   obtain⟨h2,h3⟩:=ai (c:=DP l l2) h
   rw[Tri.get_node] at e ⊢
   by_cases q:k=0
   ·rw[if_pos q] at e ⊢
    subst e
    cases a2 with
    | none=>exact nf h1
    | some y=>rw[zd (a:=o) (b:=y) h1]
   ·rw[if_neg q] at e ⊢
    by_cases q2:k % 2=1
    ·rw[if_pos q2] at e ⊢;exact ihl h2 _ _ e
    ·rw[if_neg q2] at e ⊢;exact ihr h3 _ _ e
theorem cB (h:eV H H'=true)(e:H.t.get k=some o):H'.t.get k=some o:=by
 cases H;cases H'
 exact vw h k o e
theorem iV (h:yC p b=true):(∀ z,1≤z→z≤4→p z=true)∧b=true:=by
 refine bC fun G=>?_;obtain⟨h1,h⟩:=ai (c:=p 1) h
 obtain⟨h2,h⟩:=ai (c:=p 2) h
 obtain⟨h3,h⟩:=ai (c:=p 3) h
 obtain⟨h4,h5⟩:=ai (c:=p 4) h
 apply G;refine⟨fun z a b=>?_,h5⟩
 cases z with
 | zero=>exact absurd a (Nat.not_succ_le_zero 0)
 | succ z=>cases z with
  | zero=>exact h1
  | succ z=>cases z with
   | zero=>exact h2
   | succ z=>cases z with
    | zero=>exact h3
    | succ z=>cases z with
     | zero=>exact h4
     | succ z=>exact absurd b (Nat.not_le_of_gt (Nat.le_add_left 5 z))
structure Bk (W:Wd)(ι ι' ι3:Io):Prop where
 sub:Sub ι ι'
 qD:Sub ι ι3
 own:∀ b,Own W ι3 b→Own W ι' b
theorem RV.back (B:Bk W ι ι' ι3)(a:RV W ι h v x)(b:RV W ι' h' v' x):RV W ι3 h' v' x :=
 RV.rec (motive_1:=fun v' x U=>∀ {v:Value},RV W ι h v x→RV W ι3 h' v' x) (motive_2:=fun vs' xs U=>∀ {vs:List Value},RVs W ι h vs xs→RVs W ι3 h' vs' xs) (fun U=>.none) (fun b U U=>.bool b) (fun i t U U=>.int i t) (fun t h U U=>.ge t h) (fun t h U U=>.str t h)
  (fun e l U no ih U a=>(by refine eE3 (fun U U U=>aA5 fun U U U r0 U=>?_) (a.inv);exact .tup e l (ih r0) fun z=>no (B.own _ z)))
  (fun e U a=>(by
   refine eE2 (fun U U=>aA2 fun U e0=>?_) (a.inv)
   have:=B.sub _ _ e0
   rw[e] at this;replace this:=Prod.mk.inj (ab this);obtain⟨rfl,rfl⟩:=this
   exact .ref (B.qD _ _ e0)))
  (fun e U U=>.cls e) (fun e U U=>.fn e) (fun e U U=>.bt e) (fun e U U=>.src e) (fun a U U=>.any a)
  (fun e U ih U a=>(by refine eE1 (fun U=>aA2 fun e0 r0=>?_) (a.inv);exact .sy e (ih (ab (e0.symm.trans e)▸r0))))
  (fun U=>.nil) (fun U U ih1 ih2 U a=>(by refine eE2 (fun U U=>aA3 fun U a0 b0=>?_) (a.inv);exact .cons (ih1 a0) (ih2 b0))) b a
theorem RVs.back (B:Bk W ι ι' ι3):∀ {v v':List Value},RVs W ι h v x→RVs W ι' h' v' x→RVs W ι3 h' v' x:=by
 induction x with
 | nil=>intro v v' _ b;rw[show v'=[] from b.inv];exact .nil
 | cons x xs ih =>
  intro v v' a b
  refine eE2 (fun U U=>aA3 fun U a0 b0=>?_) (a.inv)
  obtain⟨_,_,rfl,a,b⟩:=b.inv
  exact .cons (a0.back B a) (ih b0 b)
section
variable {W:Wd}{ι ι' ι3:Io}{h h':Heap}{fs:List Env}{H H':Hp}{s s':Shared}
theorem RK.back (B:Bk W ι ι' ι3):∀ {es es':List (Str × Value)},RK W ι h es l→RK W ι' h' es' l→RK W ι3 h' es' l:=by
 induction l with
 | nil=>intro _ es' _ b;rw[show es'=[] from b.inv];exact .nil
 | cons p l ih =>
  intro _ _ a b
  refine bC fun G=>?_;refine eE3 (fun U U U=>aA4 fun U U b0 d0=>?_) (a.inv)
  obtain⟨_,_,_,rfl,a,b,d⟩:=b.inv
  apply G;exact .cons a (b0.back B b) (ih d0 d)
theorem cz.back (B:Bk W ι ι' ι3){cv:Value}{q:Str}(x:cz W ι' h' cv q):cz W ι3 h' cv q:=by
 obtain⟨c,oc,vs,tk,e,g,k,d,v,no⟩:=x
 exact⟨c,oc,vs,tk,e,g,k,d,v,fun z=>no (B.own _ z)⟩
theorem RO.back (B:Bk W ι ι' ι3)(a:RO W ι h p o)(b:RO W ι' h' p' o):RO W ι3 h' p' o:=by
 cases o with
 | list l =>
  refine bC fun G=>?_;obtain⟨_,_,_,_,_,r0⟩:=a
  obtain⟨e,ln,vs,n,g,r⟩:=b
  apply G;exact⟨e,ln,vs,n,g,r0.back B r⟩
 | dict l =>
  refine bC fun G=>?_;obtain⟨_,_,_,_,r0⟩:=a
  obtain⟨e,ln,kvs,g,r⟩:=b
  apply G;exact⟨e,ln,kvs,g,r0.back B r⟩
 | inst c l =>
  refine bC fun G=>?_;obtain⟨_,_,_,_,_,_,_,_,_,_,_,r0⟩:=a
  obtain⟨ln,ne,C,x,kvs,hC,g,c,d,nc,g2,r⟩:=b
  apply G;exact⟨ln,ne,C,x,kvs,hC,g,c,d,nc,g2,r0.back B r⟩
 | cell v =>
  refine bC fun G=>?_;obtain⟨_,_,_,_,_,_,r0⟩:=a
  obtain⟨e,x,ov,g,c,d,r⟩:=b
  apply G;refine⟨e,x,ov,g,c,d,?_⟩
  refine bC fun G=>?_;revert r;refine oO (fun r=>?_) (eE1 fun y=>aA2 fun ey r=>?_)
  ·apply G;exact .inl r
  ·revert r0;refine oO (fun r0=>?_) (eE1 fun y0=>aA2 fun U r0=>?_)
   ·apply G;exact .inl r0
   ·apply G;exact .inr ⟨y,ey,r0.back B r⟩
 | cL f js =>
  refine bC fun G=>?_;obtain⟨_,_,_,_,_,_,_,_,r0⟩:=a
  obtain⟨e,x,fd,g,c,d,wc,ca,r⟩:=b
  apply G;refine⟨e,x,fd,g,c,d,wc,ca.back B,fun i n q=>?_⟩
  refine bC fun G=>?_;refine eE3 (fun a0 j0 d0=>aA3 fun f1 f2 f3=>?_) (r0 i n q)
  refine eE3 (fun a j dd=>aA3 fun h1 h2 h3=>?_) (r i n q)
  rw[f2] at h2;replace h2:=ab h2;subst h2
  have:=B.sub _ _ f3
  rw[h3] at this;replace this:=Prod.mk.inj (ab this);obtain⟨rfl,rfl⟩:=this
  apply G;exact⟨_,_,_,h1,f2,B.qD _ _ f3⟩
 | eW=>exact b
theorem St.shrink (S:St W fs ι H s)(S':St W fs ι' H' s')(E:Ext W noX ι s.heap ι' s'.heap)(hs:∀ k o,H.t.get k=some o→H'.t.get k=some o):St W fs ι H s'∧Ext W noX ι s.heap ι s'.heap:=by
 have B:Bk W ι ι' ι:=⟨E.sub,Sub.refl _,fun b z=>z.mono E.sub⟩
 refine⟨⟨S'.bo,S'.bp,S'.mods,S'.ground,S'.old,S'.lim,S'.frames,S'.frd,fun k o g=>?_,S.dom,S.apart,S.fresh,S.aF,S'.src,S'.gens,S'.os,fun P m=>?_⟩,⟨Sub.refl _,fun b o g c d no=>?_,E.keep,E.dom,fun b z=>.inl z⟩⟩
 ·refine eE1 (fun p=>aA2 fun e r=>?_) (S.live k o g)
  exact⟨p,e,r.back B (S'.ro (E.sub _ _ e) (hs k o g))⟩
 ·refine eE1 (fun ps=>aA4 fun b g t c=>?_) (S'.tabs P m)
  exact⟨ps,b,g,t,fun pos cv e=>(c pos cv e).back B⟩
 ·have:=E.tk b o g c d no
  exact⟨this.1,no⟩
end
theorem ma:∀ {d:List (Nat × Vl)},cI d key false k=true→∃ v,k v=true
 | [],h=>by exact ft h
 | (a,v) :: r,h=>by
  have h:(@Bool.rec (fun U=>Bool) (cI r key false k) (k v) (Nat.beq a key))=true:=h
  cases q:Nat.beq a key with
  | true=>rw[q] at h;exact⟨v,h⟩
  | false=>rw[q] at h;exact ma h
theorem pq (key:Nat)(v w:Vl):∀ a:List (Nat × Vl),(dput key v a).length=(dput key w a).length
 | []=>rfl
 | (c,x) :: r=>by
  rw[fL,fL]
  split
  ·rfl
  ·exact congrArg (·+1) (pq key v w r)
section
variable {W:Wd}{ι ι' ι3:Io}{h h':Heap}{fs:List Env}{H H':Hp}{s s':Shared}
theorem RK.here (B:Bk W ι ι' ι3)(f:∀ v,RV W ι' h' v x→RV W ι3 h' v y):∀ {es es':List (Str × Value)},RK W ι h es a→RK W ι' h' es' (dput key x a)→RK W ι3 h' es' (dput key y a):=by
 induction a with
 | nil =>
  intro _ _ _ b
  refine eE3 (fun U U U=>aA4 fun z1q3 s r d=>?_) (b.inv);obtain rfl:=z1q3
  obtain rfl:=d.inv
  exact .cons s (f _ r) .nil
 | cons p a ih =>
  intro _ _ a b
  obtain⟨c,z⟩:=p
  refine eE3 (fun U U U=>aA4 fun U s0 r0 d0=>?_) (a.inv)
  rw[fL] at b ⊢
  by_cases q:Nat.beq c key=true
  ·rw[if_pos q] at b ⊢
   refine eE3 (fun U U U=>aA4 fun z5q3 s r d=>?_) (b.inv);obtain rfl:=z5q3
   exact .cons s (f _ r) (d0.back B d)
  ·rw[if_neg q] at b ⊢
   refine eE3 (fun U U U=>aA4 fun z6q3 s r d=>?_) (b.inv);obtain rfl:=z6q3
   exact .cons s (r0.back B r) (ih d0 d)
set_option tactic.hygienic true in
theorem ql {q c:Nat}{a:List (Nat × Vl)}(t:rG H H' q c a=true):∃ m,H'.t.get q=some (.inst c (dput fp (.ref m) a))∧H.n≤m∧H'.t.get m=some (.dict [])∧∀ k o,k≠q→H.t.get k=some o→H'.t.get k=some o:=by
 refine bC fun G=>?_;refine eE1 (fun o=>aA2 fun g t=>?_) (af t)
 cases o<;>first | exact nf t | exact ns t | skip
 rename_i c2 l2
 obtain⟨h1,t⟩:=ai (c:=Nat.beq c c2) t
 obtain⟨v,t⟩:=ma t
 refine eE1 (fun m=>aA2 fun z10q1 t=>?_) (br t);obtain rfl:=z10q1
 obtain⟨h2,t⟩:=ai (c:=pEq l2 (dput fp (.ref m) a)) t
 obtain⟨h3,t⟩:=ai (c:=@Hp.rec (fun U=>Bool) (fun n U=>Nat.ble n m) H) t
 refine eE1 (fun o=>aA2 fun g2 t=>?_) (af t)
 cases o<;>first | exact nf t | exact ns t | skip
 rename_i dd
 cases dd with
 | cons _ _=>exact ft t
 | nil =>
  have t:aX H q .eW (fun h=>aX H' q .eW fun h2=>eV h h2)=true:=t
  rw[bl,bl] at t
  apply G;refine⟨m,?_,?_,g2,fun k o ne e=>?_⟩
  ·rw[g,← aD h1,kH h2]
  ·cases H;exact bS h3
  ·have e1:(H.set q .eW).t.get k=some o:=by
    show(H.t.set .eW q).get k=_
    rw[Tri.get_set,if_neg ne];exact e
   have:=cB t e1
   have:(H'.t.set .eW q).get k=some o:=this
   rw[Tri.get_set,if_neg ne] at this
   exact this
set_option tactic.hygienic true in
theorem St.here (S:St W fs ι H s)(S':St W fs ι' H' s')(E:Ext W noX ι s.heap ι' s'.heap){q c:Nat}{a:List (Nat × Vl)}(hq:H.t.get q=some (.inst c a))(t:rG H H' q c a=true) :
  ∃ ι3,St W fs ι3 ((H.add (.dict [])).set q (.inst c (dput fp (.ref H.n) a))) s'∧Ext W noX ι s.heap ι3 s'.heap∧∀ b,Own W ι3 b→Own W ι' b:=by
 refine bC fun G=>?_;refine eE1 (fun m=>aA4 fun h1 h2 h3 h4=>?_) (ql t)
 refine eE1 (fun p=>aA2 fun ep rp=>?_) (S.live q _ hq)
 refine eE1 (fun pm=>aA2 fun em rm=>?_) (S'.live m _ h3)
 have lq:=(S.dom q p ep).1
 have own3:∀ b,Own W (aH ι H.n pm) b→Own W ι' b:=fun b z=>by
  rcases bF z with z | z | z
  ·exact z.mono E.sub
  ·exact .inr ⟨m,pm,em,.inl z⟩
  ·exact .inr ⟨m,pm,em,.inr z⟩
 have qD:Sub ι (aH ι H.n pm):=aN S.unused
 have B:Bk W ι ι' (aH ι H.n pm):=⟨E.sub,qD,own3⟩
 have get3:∀ k,((H.add (.dict [])).set q (.inst c (dput fp (.ref H.n) a))).t.get k=if k=q then some (.inst c (dput fp (.ref H.n) a)) else if k=H.n then some (.dict []) else H.t.get k:=fun k=>by
  show((H.t.set (.dict []) H.n).set (.inst c (dput fp (.ref H.n) a)) q).get k=_
  rw[Tri.get_set,Tri.get_set]
 have cases3:∀ {k p'},aH ι H.n pm k=some p'→(k=H.n∧p'=pm)∨(k≠H.n∧ι k=some p'):=fun {k p'} e=>by
  unfold aH at e
  split at e
  ·replace e:=ab e;subst e;exact .inl ⟨‹_›,rfl⟩
  ·exact .inr ⟨‹_›,e⟩
 apply G;refine⟨_,⟨S'.bo,S'.bp,S'.mods,S'.ground,S'.old,S'.lim,S'.frames,S'.frd,fun k o g=>?_,fun k p' e=>?_,fun k k' p1 p2 e1 e2 ne=>?_,fun b z=>S'.fresh b (own3 b z),fun k p' e=>?_,S'.src,S'.gens,S'.os,fun P mm=>?_⟩,⟨qD,fun b o g cc d no=>?_,E.keep,E.dom,fun b z=>?_⟩,own3⟩
 ·rw[get3] at g
  split at g
  ·replace g:=ab g;subst g
   rename_i z;subst z
   refine⟨p,qD _ _ ep,?_⟩
   refine bC fun G=>?_;obtain⟨_,_,_,_,_,_,_,_,_,_,_,r0⟩:=rp
   obtain⟨ln,ne,C,x,kvs,hC,g,cc,d,nc,g2,r⟩:=S'.ro (E.sub _ _ ep) h1
   apply G;refine⟨?_,ne,C,x,kvs,hC,g,cc,d,nc,g2,RK.here B (fun v rv=>?_) r0 r⟩
   ·rw[pq fp _ (.ref m)];exact ln
   ·refine bC fun G=>?_;refine eE2 (fun U U=>aA2 fun z19q2 e=>?_) (rv.inv);obtain rfl:=z19q2;apply G;next =>
     rw[em] at e;replace e:=ab e;subst e
     exact .ref (ao _ _ _)
  ·split at g
   ·replace g:=ab g;subst g
    rename_i z;subst z
    refine⟨pm,ao _ _ _,?_⟩
    refine bC fun G=>?_;obtain⟨e,ln,kvs,g,r⟩:=rm
    apply G;refine⟨e,ln,kvs,g,?_⟩
    rw[show kvs=[] from r.inv];exact .nil
   ·refine eE1 (fun p'=>aA2 fun e' r'=>?_) (S.live k o g)
    exact⟨p',qD _ _ e',r'.back B (S'.ro (E.sub _ _ e') (h4 k o ‹_› g))⟩
 ·rw[get3]
  show k < H.n+1∧_
  refine bC fun G=>?_;rcases cases3 e with ⟨rfl,rfl⟩| ⟨ne,e⟩
  ·apply G;exact⟨Nat.lt_succ_self _,.dict [],by rw[if_neg (by omega),if_pos rfl]⟩
  ·refine aA2 (fun lt=>eE1 fun o g=>?_) (S.dom k p' e)
   apply G;refine⟨Nat.lt_succ_of_lt lt,?_⟩
   by_cases z:k=q
   ·exact⟨_,if_pos z⟩
   ·exact⟨o,by rw[if_neg z,if_neg ne];exact g⟩
 ·refine bC fun G=>?_;rcases cases3 e1 with ⟨rfl,rfl⟩| ⟨n1,f1⟩<;>rcases cases3 e2 with ⟨rfl,rfl⟩| ⟨n2,f2⟩
  ·exact absurd rfl ne
  ·have:=(S.dom _ _ f2).1
   apply G;exact S'.apart m k' _ _ em (E.sub _ _ f2) (by omega)
  ·have:=(S.dom _ _ f1).1
   apply G;exact S'.apart k m _ _ (E.sub _ _ f1) em (by omega)
  ·apply G;exact S.apart k k' _ _ f1 f2 ne
 ·refine bC fun G=>?_;rcases cases3 e with ⟨rfl,rfl⟩| ⟨n1,e⟩
  ·apply G;exact S'.aF m _ em
  ·apply G;exact S.aF k _ e
 ·refine eE1 (fun ps=>aA4 fun b g t cf=>?_) (S'.tabs P mm)
  exact⟨ps,b,g,t,fun pos cv e=>(cf pos cv e).back B⟩
 ·have:=E.tk b o g cc d no
  exact⟨this.1,fun z=>this.2 (own3 b z)⟩
 ·exact E.new b (own3 b z)
end
theorem gQ (h:cw sz t w n j=some x)(ht:t≤2):∃ z,sz[j]? = some z∧x=hJ t z∧∀ t',t'≤2→cw sz t' w n j=some (hJ t' z):=by
 unfold cw at h
 by_cases c:n=sz.length∧w=(if 256 < sz.foldl (· * ·) 1 then 1 else 0)
 ·rw[if_pos c,if_neg (by omega:¬ t=3),if_pos ht] at h
  cases e:sz[j]? with
  | none=>rw[e] at h;(first | exact nf h | exact ns h | cases h)
  | some z =>
   rw[e] at h;replace h:=ab h;subst h
   refine⟨z,rfl,rfl,fun t' h'=>?_⟩
   unfold cw
   rw[if_pos c,if_neg (by omega:¬ t'=3),if_pos h',e]
   rfl
 ·rw[if_neg c] at h;exact zns h
section
variable {W:Wd}{ι ι':Io}{h h':Heap}
theorem gM (r:RV W ι h v (.int i)):RV W ι' h v (.int i):=by obtain⟨_,rfl⟩:=r.inv;exact .int _ _
theorem cO (r:RV W ι h v (.str i)):RV W ι' h v (.str i):=by obtain⟨_,_,rfl,e⟩:=r.inv;exact .str _ e
theorem bg (r:RVs W ι h v []):RVs W ι' h v []:=by obtain rfl:v=[]:=r.inv;exact .nil
theorem ah (f:∀ {w},RV W ι h w x→RV W ι' h w x)(g:∀ {w},RVs W ι h w xs→RVs W ι' h w xs)(r:RVs W ι h v (x :: xs)):RVs W ι' h v (x :: xs):=by obtain⟨_,_,rfl,a,b⟩:=r.inv;exact .cons (f a) (g b)
theorem bj (B:∀ b,Own W ι' b→Own W ι b)(f:∀ {w},RVs W ι h w l→RVs W ι' h w l)(r:RV W ι h v (.tup l)):RV W ι' h v (.tup l):=by
 obtain⟨_,_,_,rfl,a,b,c,d⟩:=r.inv
 exact .tup a b (f c) fun z=>d (B _ z)
theorem ib (B:∀ b,Own W ι' b→Own W ι b):RV W ι h v ji→RV W ι' h v ji:=bj B (ah cO (ah cO bg))
theorem j8 (B:∀ b,Own W ι' b→Own W ι b):∀ (x:Vl){v:Value},(∃ z,1≤z∧z≤4∧x=tyV z)→RV W ι h v x→RV W ι' h v x:=by
 have lit:∀ {v:Value}{i:Int},RV W ι h v (.tup [.str m8,ji,.int i])→RV W ι' h v (.tup [.str m8,ji,.int i]):=bj B (ah cO (ah (ib B) (ah gM bg)))
 rintro x v ⟨z,h1,h2,rfl⟩
 obtain rfl | rfl | rfl | rfl:=four h1 h2
 ·exact bj B (ah cO (ah (ib B) (ah (bj B (ah lit bg)) bg)))
 ·exact bj B (ah cO (ah (ib B) (ah (bj B (ah lit (ah lit bg))) bg)))
 ·exact bj B (ah cO (ah (ib B) (ah (bj B (ah lit (ah lit (ah lit bg)))) bg)))
 ·exact bj B (ah cO (ah (ib B) (ah (bj B (ah lit (ah lit (ah lit (ah lit bg))))) bg)))
theorem yG (B:∀ b,Own W ι' b→Own W ι b):∀ (x:Vl){v:Value},(∃ z,1≤z∧z≤4∧x=orV z)→RV W ι h v x→RV W ι' h v x:=by
 have lit:∀ {v:Value}{i:Int},RV W ι h v (.tup [.str BO,.int 1,.int i])→RV W ι' h v (.tup [.str BO,.int 1,.int i]):=bj B (ah cO (ah gM (ah gM bg)))
 rintro x v ⟨z,h1,h2,rfl⟩
 obtain rfl | rfl | rfl | rfl:=four h1 h2
 ·exact bj B (ah cO (ah gM (ah (bj B (ah lit bg)) bg)))
 ·exact bj B (ah cO (ah gM (ah (bj B (ah lit (ah lit bg))) bg)))
 ·exact bj B (ah cO (ah gM (ah (bj B (ah lit (ah lit (ah lit bg)))) bg)))
 ·exact bj B (ah cO (ah gM (ah (bj B (ah lit (ah lit (ah lit (ah lit bg))))) bg)))
end
section
variable {W:Wd}{r:Rt}{d:Nat}{A:Around}{fs:List Env}{ι:Io}{H:Hp}{s:Shared}
theorem Be {P:Value→Shared→Prop}{q:Result}{s':Shared}{R:Result→Shared→Prop}{h0:Shared}(z:RC P (PE W fs noX ι h0 (fun U U=>false)) q s')(f:∀ v,P v s'→R (.ok (.ret v)) s'):R q s':=by
 rcases q with e | (v | _ | _ | _)<;>first | exact f _ z | exact z.elim | (obtain⟨_,_,_,_,_,_,_,_,_,z⟩:=z;exact ft z)
theorem oy (W:Wd){j z:Nat}(h:W.bJ[j]? = some z):1≤z∧z≤4:=W.cY.1 z (List.mem_of_getElem? h)
theorem uy {d:Bool}{f:Vl→List Vl→Bool}(t:ak d f []=true):d=true:=t
theorem xD {d:Bool}{f:Nat→List (Nat × Vl)→Bool}{c:Nat}{l:List (Nat × Vl)}(t:eN d f (.inst c l)=true):f c l=true:=t
set_option tactic.hygienic true in
theorem FW {M:Model}{i:Nat}{go:List Vl→Hp→KV→KE→Bool}{v0:Value}(S:St W fs ι H s)(hgo:∀ (vs:List Value)(xs:List Vl)(k:KV)(e:KE),RVs W ι s.heap vs xs→go xs H k e=true→codeAny M A (.call v0 ⟨vs,[]⟩) (RC (PX W fs noX ι s k) (PE W fs noX ι s e)) s)
  {vs:List Value}{xs:List Vl}{k:KV}{e:KE}(rv:RVs W ι s.heap vs xs)(t:mU i go xs H k e=true):codeAny M A (.call v0 ⟨vs,[]⟩) (RC (PX W fs noX ι s k) (PE W fs noX ι s e)) s:=by
 cases xs with
 | nil=>exact hgo _ _ _ _ rv t
 | cons a l =>
  cases a with
  | sy t0 w n j =>
   refine bC fun G=>?_;obtain⟨h1,t⟩:=ai (c:=Nat.beq t0 2) t
   obtain⟨_,t⟩:=ai (c:=Nat.beq i Dg) t
   cases l with
   | cons _ _=>exact ft t
   | nil =>
    obtain⟨t,tk⟩:=iV (uy t)
    rw[aD h1] at rv
    cases rv with
    | cons ra rb =>
     refine eE1 (fun U=>aA2 fun es rx=>?_) (ra.inv);apply G;next =>
      refine eE1 (fun z=>aA3 fun ez z8q2 all=>?_) (gQ es (Nat.le_refl _));obtain rfl:=z8q2
      obtain⟨z1,z4⟩:=oy W ez
      refine codeAny_mono (hgo _ _ _ _ (.cons rx rb) (t z z1 z4)) fun q s' zz=>Be zz fun v P=>?_
      obtain⟨ι',H',x',S',E',rv',t'⟩:=P
      obtain⟨q1,q2⟩:=ai (c:=vEq x' (.int (.ofNat z))) t'
      have:=dY q1
      subst this
      obtain⟨S2,E2⟩:=S.shrink S' E' fun k o e=>cB q2 e
      refine⟨ι,H,.sy 0 w n j,S2,E2,.sy (all 0 (by simp +arith only)) ?_,tk⟩
      obtain⟨_,rfl⟩:=rv'.inv;exact .int _ _
  | ref q =>
   cases l with
   | nil=>exact hgo _ _ _ _ rv t
   | cons b l =>
    cases b with
    | sy t0 w n j =>
     refine bC fun G=>?_;obtain⟨h1,t⟩:=ai (c:=Nat.beq t0 1) t
     obtain⟨_,t⟩:=ai (c:=Nat.beq i Cz) t
     refine eE1 (fun o=>aA2 fun ho t=>?_) (af t)
     cases o<;>first | exact nf t | exact ns t | skip
     rename_i c a
     obtain⟨t,tk⟩:=iV (xD t)
     have tk:bM H (.dict []) (fun m h=>aX h q (.inst c (dput fp (.ref m) a)) fun h=>k (.sy 2 w n j) h)=true:=tk
     rw[aT,bl] at tk
     rw[aD h1] at rv
     cases rv with
     | cons ra rb =>
      cases rb with
      | cons rb rc =>
       refine eE1 (fun U=>aA2 fun es rx=>?_) (rb.inv);apply G;next =>
        refine eE1 (fun z=>aA3 fun ez z18q2 all=>?_) (gQ es (by simp +arith only));obtain rfl:=z18q2
        obtain⟨z1,z4⟩:=oy W ez
        refine codeAny_mono (hgo _ _ _ _ (.cons ra (.cons rx rc)) (t z z1 z4)) fun qq s' zz=>Be zz fun v P=>?_
        obtain⟨ι',H',x',S',E',rv',t'⟩:=P
        obtain⟨q1,q2⟩:=ai (c:=vEq x' (tyV z)) t'
        have:=dY q1
        subst this
        refine eE1 (fun ι3=>aA3 fun S3 E3 ow=>?_) (S.here S' E' ho q2)
        exact⟨ι3,_,.sy 2 w n j,S3,E3,.sy (all 2 (by simp +arith only)) (j8 ow _ ⟨z,z1,z4,rfl⟩ rv'),tk⟩
    | _=>exact hgo _ _ _ _ rv t
  | _=>exact hgo _ _ _ _ rv t
structure nZ (W:Wd)(fns:Tri Fd):Prop where
 fn:∀ i a ns nc ps df b,W.fn i=some a→fns.get i=some (.mk ns nc ps df b)→∃ oc od fd osl sc own pn,W.K.lookup a=some ⟨oc,od,.func fd,osl⟩∧codeIn W.K fd.code fd.qualname=true∧eO W sc fd [] own pn ns nc ps df b
 cL:∀ g fd ns nc ps df b,W.cL g fd→fns.get g=some (.mk ns nc ps df b)→∃ sc pn,eO W sc fd (W.free g) [] pn ns nc ps df b
theorem cz.GY {h:Heap}{cv:Value}{q:Str}(x:cz W ι h cv q):h.CodeRec cv q:=by
 obtain⟨c,oc,vs,tk,e,g,k,d,v,no⟩:=x
 exact⟨c,oc,vs,tk,e,g,d,v⟩
set_option tactic.hygienic true in
theorem rU {fns:Tri Fd}(P:nZ W fns)(ih:lT W (cM fns d) d):lT W (cM fns (d+1)) (d+1):=by
 intro A fs ι H s v x vs xs k e ar S rv rvs t
 cases x with
 | fn i =>
  refine bC fun G=>?_;refine eE1 (fun _=>aA2 fun z24q1 hf=>?_) (rv.inv);obtain rfl:=z24q1;apply G;next =>
   rename_i a
   have t:(@Option.rec Fd (fun _=>Bool) false (fun x=>mU i (fun l h k e=>kG (cM fns d) [] x l h k e) xs H k e) (fns.get i))=true:=t
   cases g:fns.get i with
   | none=>rw[g] at t;(first | exact nf t | exact ns t | cases t)
   | some x =>
    rw[g] at t
    obtain⟨ns,nc,ps,df,b⟩:=x
    refine eE7 (fun oc od fd osl sc own pn=>aA3 fun hK hcd en=>?_) (P.fn i a ns nc ps df b hf g)
    exact FW S (fun vs xs k e rvs t=>enter en ih ar S (S.ground _ _ hK) rfl (codeRec_of S.ground hcd) (js:=[]) (.inl rfl) (fun i n z=>by exact zns z) rvs t) rvs t
 | ref i =>
  refine bC fun G=>?_;refine eE1 (fun o=>aA2 fun ho t=>?_) (af t)
  cases o<;>first | exact nf t | exact ns t | skip
  rename_i g js
  have t:(@Option.rec Fd (fun _=>Bool) false (fun x=>kG (cM fns d) js x xs H k e) (fns.get g))=true:=t
  refine eE1 (fun p=>aA3 fun ep z28q2 z28r=>?_) (S.get rv ho);obtain rfl:=z28q2;obtain⟨_,o,fd,g0,c0,d0,wc,ca,r0⟩:=z28r
  cases gg:fns.get g with
  | none=>rw[gg] at t;(first | exact nf t | exact ns t | cases t)
  | some x =>
   rw[gg] at t
   obtain⟨ns,nc,ps,df,b⟩:=x
   refine eE2 (fun sc pn en=>?_) (P.cL g fd ns nc ps df b wc gg)
   apply G;exact enter en ih ar S g0 d0 ca.GY (.inr rfl) r0 rvs t
 | _=>(first | exact nf t | exact ns t | cases t)
theorem qp {fns:Tri Fd}(P:nZ W fns):∀ d,lT W (cM fns d) d
 | 0=>fun A fs ι H s v x vs xs k e ar S rv rvs t=>by exact ft t
 | d+1=>rU P (qp P d)
end
set_option tactic.hygienic true in
theorem AN {W:Wd}{sc:Sc}{i t0:Nat}{x:CX}{ex:Expr}(ht:t0=1∨t0=2)(hs:∃ n,sc.slots[i]? = some n)(hx:SX W sc x ex):SX W sc (Cn i t0 x) ex:=fun r d A fs env f ι H s k e h t=>by
 refine bC fun G=>?_;obtain⟨sl,cl⟩:=f
 have t:jZ sl i (fun v=>wSy (x r (.mk sl cl) H k e) (fun t1 w n j=>(@Bool.rec (fun U=>Bool) false (yC (fun z=>x r (.mk (lU (.int (.ofNat z)) sl i) cl) H (fun v h2=>(@Bool.rec (fun U=>Bool) false (eV H h2) (vEq v (hJ t0 z)))) (fun U U=>false)) (k (.sy t0 w n j) H)) (Nat.beq t1 0))) v)=true:=t
 refine eE1 (fun v=>aA2 fun hv t=>?_) (cC t)
 cases v with
 | sy t1 w n j =>
  obtain⟨h1,t⟩:=ai (c:=Nat.beq t1 0) t
  obtain⟨t,tk⟩:=iV t
  rw[aD h1] at hv
  refine eE1 (fun m=>aA2 fun hm hr=>?_) (h.fr.ns)
  obtain⟨nn,hn⟩:∃ nn,sc.slots[i]? = some nn:=hs
  refine oO (fun z=>?_) (eE1 fun v=>aA2 fun hmv rv=>?_) (hr i nn _ hn hv)
  ·injection z
  ·refine eE1 (fun U=>aA2 fun es rx=>?_) (rv.inv);apply G;next =>
    refine eE1 (fun z=>aA3 fun ez z37q2 all=>?_) (gQ es (by simp +arith only));obtain rfl:=z37q2
    obtain⟨z1,z4⟩:=oy W ez
    have fr:aS W sc env ι s.heap (.mk (sl.set i (.int (.ofNat z))) cl):=by
     refine⟨h.fr.no,h.fr.nb,⟨m,hm,fun i' n' y e1 e2=>?_⟩,fun i' n' e1 e2=>h.fr.cells i' n' e1 e2⟩
     have e2:(sl.set i (.int (.ofNat z)))[i']? = some y:=e2
     by_cases q:i'=i
     ·subst q
      rw[List.getElem?_set] at e2
      split at e2
      ·split at e2
       ·replace e2:=ab e2;subst e2
        rw[hn] at e1;replace e1:=ab e1;subst e1
        exact .inr ⟨v,hmv,rx⟩
       ·exact zns e2
      ·rename_i z;exact absurd rfl z
     ·rw[List.getElem?_set_ne (Ne.symm q)] at e2
      exact hr i' n' y e1 e2
    have t':=t z z1 z4
    rw[jt] at t'
    refine wpAny_mono (hx r d A fs env _ ι H s _ _ ⟨h.rt,h.ar,h.eo,fr,h.st⟩ t') (fun v' s' P=>?_) fun v' s' zz=>(AY zz).elim
    obtain⟨ι',H',x',S',E',rv',t''⟩:=P
    obtain⟨q1,q2⟩:=ai (c:=vEq x' (hJ t0 z)) t''
    have:=dY q1
    subst this
    obtain⟨S2,E2⟩:=h.st.shrink S' E' fun k o e=>cB q2 e
    refine⟨ι,H,.sy t0 w n j,S2,E2,.sy (all t0 (by omega)) ?_,tk⟩
    rcases ht with rfl | rfl
    ·exact yG (fun b z=>z.mono E'.sub) _ ⟨z,z1,z4,rfl⟩ rv'
    ·exact j8 (fun b z=>z.mono E'.sub) _ ⟨z,z1,z4,rfl⟩ rv'
 | _=>apply G;exact hx r d A fs env (.mk sl cl) ι H s k e h t
section
variable {M:Model}{A:Around}{E:Value→Shared→Prop}{s:Shared}{Q:Fin→Shared→Prop}
theorem DE {c:Value}{l:List Value}{o:Option String}{t1:Sem Fin}{p:Option String→Sem Fin}(hm:Looks M s.heap (mroOf c) l)(he:l.isEmpty=false)(hmd:Looks M s.heap (Bind.madeBy c) o)(h:wpAny M A (p o) Q E s) :
  wpAny M A (mroOf c >>= fun m=>if m.isEmpty=true then t1 else Bind.madeBy c >>= fun o=>p o) Q E s :=
 wpAny_bind (hm.here (wpAny_ite_false (by rw[he];rfl) (wpAny_bind (hmd.here h))))
theorem Ei {c obj:Value}{rest:List Value}{t2:Sem Fin}{k2:Option Value→Sem Fin}(hi:Looks M s.heap (isInstance obj c) true)(h:wpAny M A (callSpecial? obj "__init__" rest []) (fun r s'=>wpAny M A (k2 r) Q E s') E s) :
  wpAny M A (isInstance obj c >>= fun b=>if(!b)=true then t2 else holding [obj] (callSpecial? obj "__init__" rest []) >>= k2) Q E s :=
 wpAny_bind (hi.here (wpAny_ite_false rfl (wpAny_bind (wpAny_holding h))))
theorem Ej {obj t m:Value}{n:Str}{args first:List Value}{Q:Option Value→Shared→Prop}(ht:Looks M s.heap (typeOf obj) t)(hl:Looks M s.heap (typeLookup t n) (some m))(hb:Looks M s.heap (bindSpecial m obj) (m,first))(h:wpAny M A (call m (first++args)) (fun r s'=>Q (some r) s') E s) :
  wpAny M A (callSpecial? obj n args []) Q E s :=
 wpAny_bind (wpAny_bind (ht.here (hl.here (wpAny_holding (wpAny_bind (hb.here (wpAny_bind (wpAny_mono h (fun U U z=>wpAny_pure z) fun U U z=>z))))))))
end
section
variable {prog:Program}{w:World}{A:Around}{K:Frag}{C:Addr}{R:Result→Shared→Prop}{h:Heap}{g:Array GenState}{d:Drawn}{t:Nat}{os:OsState}
theorem lN (Y:Exc (model prog w) h C)(hrest:rest.length≤sizeLine)(hi:Looks (model prog w) h (typeLookup (.ref C) "__init__") (some init))
  (hb:∀ self,Looks (model prog w) h (bindSpecial init self) (init,[self]))
  (hq:codeAny (model prog w) (A.under (.builtin "type.__call__" ⟨.ref C :: rest,[]⟩)) (.call init ⟨.ref (h.objs.size+1) :: rest,[]⟩) (InitBack (h.objs.size+1) R) ⟨(h.push (fq rest)).push (cQ C h.objs.size),g,d,t,os⟩) :
  codeAny (model prog w) A (.call (.ref C) ⟨rest,[]⟩) R ⟨h,g,d,t,os⟩:=by
 obtain⟨oc,od,cd,sl,hC,e1,e2,e4⟩:=Y.obj
 refine codeAny_of_tree ?_
 show wpAny _ _ (callAny (.ref C) _) _ _ _
 refine nd_load hC ?_
 show wpAny _ _ (callAny.viaDunder (.ref C) _) _ _ _
 refine wpAny_bind (Y.call.at ?_)
 refine wpAny_bind (wpAny_of_eq (tc_bind _) (wpAny_bind (wpAny_pure ?_)))
 refine wpAny_pure (a:=Fin.again (.call (.builtin "type.__call__") ⟨.ref C :: rest,[]⟩)) (And.intro rfl ?_)
 refine codeAny_call_builtin_at (Code.quiet_builtin _ (by decide +kernel)) entry_typeCall (check_slot tc_kind tc_split Y.typ (tc_args _ _ _) ?_)
 have hm:Looks (model prog w) h (mroOf (.ref C)) cd.mro:=((Looks.ld (part:=none) hC).andThen .now).andThen .now
 refine DE hm e4 Y.made (wpAny_bind (wpAny_pure (wpAny_bind (wpAny_holding (wpAny_call (new_exc Y ?_ hrest))))))
 have k:∀ b o,h.get? b=some o→((h.push (fq rest)).push (cQ C h.objs.size)).get? b=some o:=fun b o e=>Heap.get?_push_of_some _ (Heap.get?_push_of_some _ e)
 have hx:((h.push (fq rest)).push (cQ C h.objs.size)).get? (h.objs.size+1)=some (cQ C h.objs.size):=by heap_get
 have t1:Looks (model prog w) ((h.push (fq rest)).push (cQ C h.objs.size)) (typeOf (.ref (h.objs.size+1))) (.ref C):=(Looks.ld hx).andThen .now
 refine Ei (t1.andThen (Y.self.keeps k)) (Ej t1 (hi.keeps k) ((hb _).keeps k) (wpAny_call ?_))
 refine codeAny_mono hq fun r s' z=>?_
 rcases r with e | (v | _ | _ | _)<;>first | exact z | exact z.elim | skip
 obtain⟨rfl,z⟩:=z
 exact wpAny_pure z
end
section
variable {M:Model}{A:Around}{E:Value→Shared→Prop}{s:Shared}{Q:Unit→Shared→Prop}
theorem nM {cls id:String}{r:Value}{rest:List Value}{str:String}(hc:(cls != "*")=true)(hpr:Looks M s.heap (Bind.printed "*" true ⟨.positional,"*",cls,.self,[⟨"args",.varPos,false⟩]⟩ (some r)) str)(hq:Q () s):wpAny M A (Bind.checkArgs id ⟨.positional,"*",cls,.self,[⟨"args",.varPos,false⟩]⟩ ⟨r :: rest,[]⟩) Q E s:=by
 refine wpAny_bind (hpr.here (wpAny_bind (wpAny_ite_true (decide_eq_true hc) (wpAny_pure ?_))))
 refine wpAny_onRaise ?_
 rw[show ∀ (a b:String)(n:Nat)(k:List Str),k=[]→Bind.check ⟨.positional,"*",cls,.self,[⟨"args",.varPos,false⟩]⟩ a b n k=pure () from fun a b n k e=>e▸check_star_args _ _ _ _ _ _]
 exact wpAny_pure hq
 rfl
theorem zS {cls id str: String}(hk:builtinKind id=some .slot)(hs:splitId id=some (cls,"__init__"))(hg:Manifest.signature? id=some ⟨.positional,"*",cls,.self,[⟨"args",.varPos,false⟩]⟩)(hc:(cls != "*")=true)(hi:Looks M s.heap (isInstance self (.type cls)) true)
  (hpr:Looks M s.heap (Bind.printed "*" true ⟨.positional,"*",cls,.self,[⟨"args",.varPos,false⟩]⟩ (some self)) str)(hq:Q () s):wpAny M A (checkBuiltinCall id ⟨self :: rest,[]⟩) Q E s:=by
 delta checkBuiltinCall
 rw[hk,hs,hg]
 refine wpAny_bind (hi.here (wpAny_ite_false rfl ?_))
 exact nM hc hpr hq
end
section
variable {prog:Program}{w:World}{A:Around}{K:Frag}{C:Addr}{s:Shared}{E:Value→Shared→Prop}
theorem u9:findCls [] (.type "Exception") (.type "type") (Str.ofString "__init__")=some (.val (.builtin "Exception.__init__")):=by kernel_rfl
theorem qE (X:K.In s.heap)(h:Q (.builtin "Exception.__init__",[]) { s with toks:=s.toks+1 }) :
  wpAny (model prog w) A (getMethod (.type "Exception") (Str.ofString "__init__") pl) Q E s:=by
 have hstub:opaqueClassAbove (.type "Exception")=pure none:=by unfold opaqueClassAbove;dsimp only;rw[show Manifest.isStub "Exception" = false by decide +kernel];rfl
 have ht:typeOf (.type "Exception")=pure (.type "type"):=by first | rfl | kernel_rfl
 have L0:Looks (model prog w) s.heap (typeOf (.type "Exception")) (.type "type"):=Looks.of_pure ht
 have hg:findIn K (.type "type") "__getattribute__" = some (some (.builtin "type.__getattribute__")):=type_tga
 have e:findCls K (.type "Exception") (.type "type") (Str.ofString "__init__")=some (.val (.builtin "Exception.__init__")):=u9
 unfold getMethod specialOf
 refine wpAny_bind (wpAny_bind (L0.here ((looks_findIn X hg).here ?_)))
 dsimp only
 rw[if_pos canon_tga]
 refine wpAny_bind (wpAny_mono (Q:=fun v=>Q (v,[])) (E:=E) ?_ (fun U U z=>wpAny_pure z) fun U U z=>z)
 have LO:Looks (model prog w) s.heap (opaqueClassAbove (.type "Exception")) none:=Looks.of_pure hstub
 refine cls_open X LO L0 hg (looks_hook X (r:=none) (by rfl)) (by show subIn K _ _=_;rfl) e
  (wpAny_pure (by show wpAny _ _ (handedOut _) _ _ _;rw[handedOut_of (by decide)];exact wpAny_pure h))
theorem uG {e:Addr}{oe:Obj}{vs:Array Value}{t0:Addr}{rest:List Value}{Q:Value→Shared→Prop}{oc:Value}{od:Option Addr}{cd:ClassData}{sl:Array (Option Value)}(hC:s.heap.get? C=some ⟨oc,od,.cls cd,sl⟩)(sub:Looks (model prog w) s.heap (isSubtype (.ref C) (.type "Exception")) true)
  (he:s.heap.get? e=some oe)(hcls:oe.cls = .ref C)(hd:oe.data = .fields vs)(h0:vs[0]? = some (.ref t0))(hrest:rest.length≤sizeLine)
  (h:Q .none { s with heap:=(s.heap.push (fq rest)).update e (Obj.mapFields (·.setIfInBounds 0 (.ref s.heap.objs.size))) }) :
  wpAny (model prog w) A (call (.builtin "Exception.__init__") (.ref e :: rest)) Q E s:=by
 have F:=PySem.F.excBase_Exception
 have hshort:=F.noStar
 have ty:Looks (model prog w) s.heap (typeOf (.ref e)) (.ref C):=(Looks.ld he).andThen (by rw[hcls];exact .now)
 have ins:Looks (model prog w) s.heap (isInstance (.ref e) (.type "Exception")) true:=ty.andThen sub
 have pr:Looks (model prog w) s.heap (Bind.printed "*" true ⟨.positional,"*","Exception",.self,[⟨"args",.varPos,false⟩]⟩ (some (.ref e))) cd.name.toString:=ty.andThen ((((Looks.ld hC).andThen .now).andThen .now).andThen .now)
 refine wpAny_call (codeAny_call_builtin F.init.plain F.initEntry (zS (cls:="Exception") (id:="Exception.__init__") F.initKind F.initSplit F.initRow F.noStar ins pr ?_))
 unfold Builtin.«BaseException.__init__»
 dsimp only
 rw[if_neg (by simp)]
 unfold newTuple Builtin.BaseException.bexcPut
 have hsz:0 < vs.size:=(Array.getElem?_eq_some_iff.mp h0).1
 have he₁:=Heap.get?_push_of_some (h:=s.heap) { cls:=.type "tuple",data:=.seq rest.toArray } he
 refine wpAny_bind (wpAny_newObj_type (wpAny_bind (wpAny_bind (wpAny_field he₁ hd h0 (wpAny_bind (wpAny_setField he₁ hd hsz ?_))))) (by show rest.toArray.size≤sizeLine;rw[List.size_toArray];exact hrest))
 exact wpAny_letGo (wpAny_pure h)
end
section
variable {W:Wd}{A:Around}{s:Shared}
theorem uO (X:W.K.In s.heap)(hx:s.heap.get? x=some ox)(hc:ox.cls = .ref C)(hd:ox.dict=none)(hda:ox.data = .fields vs)
  (hp:Stores W.K C)(ht:takerIn W.K C name=some none)(hh:hasDictIn W.K C=true)
  (h:∀ h' dx,s.heap.get? dx=none→dx≠x→h'.get? x=some { ox with dict:=some dx }→h'.DictOf W.sk dx [(name,v)]→(∀ b o,b≠x→s.heap.get? b=some o→h'.get? b=some o)→R (.ok (.ret .none)) { s with heap:=h',toks:=s.toks+1 }) :
  codeAny (model W.prog W.w) A (.call (.builtin "object.__setattr__") ⟨[.ref x,.str name tk,v],[]⟩) R s:=by
 have hn:notCls ox=true:=by
  obtain⟨a,b,c,e⟩:=ox
  dsimp only at hda;subst hda;rfl
 have I:PySem.W.InstAt s.heap x ox C none:=⟨hx,hc,hn,by rw[hd];trivial⟩
 refine l7 X I hp ht fun b=>?_
 refine bC fun G=>?_;refine eE1 (fun cd=>aA2 fun hcd hd'=>?_) (any_some hh)
 obtain⟨oc,odi,oda,osl⟩:=ox
 dsimp only at hc hd hda
 subst hc hd hda
 apply G;refine wpAny_bind (wpAny_pure (wpAny_bind (wpAny_bind (wpAny_loadPart hx (wpAny_bind ((looks_clsIn X hcd).here ?_))))))
 rw[hd']
 have K1:=aj s.heap emptyDict
 have g1:=Heap.get?_push_size s.heap (o:=emptyDict) rfl
 have hx1:=K1 _ _ hx
 have ne:s.heap.objs.size≠x:=Nat.ne_of_gt (Heap.lt_size hx)
 have hf:({ cls:=.ref C,dict:=some s.heap.objs.size,data:=.fields vs,slots:=osl }:Obj).isFreed=false:=Obj.isFreed_of_fields rfl
 have hx2:=Heap.get?_update_self (fun o:Obj=>{ o with dict:=some s.heap.objs.size }) hx1 hf
 have D:((s.heap.push emptyDict).update x fun o:Obj=>{ o with dict:=some s.heap.objs.size }).get? s.heap.objs.size=some (dictOf [] 0):=(Heap.get?_update_other _ _ (Ne.symm ne)).trans g1
 have tail:∀ {Q:Fin→Shared→Prop}{E:Value→Shared→Prop},(∀ h',h'.get? x=some { cls:=.ref C,dict:=some s.heap.objs.size,data:=.fields vs,slots:=osl }→h'.DictOf W.sk s.heap.objs.size [(name,v)]→(∀ b o,b≠x→s.heap.get? b=some o→h'.get? b=some o)→Q (.done (.ret .none)) { s with heap:=h',toks:=s.toks+1 }) →
   wpAny (model W.prog W.w) A.in1 (Builtin.ObjectAttr.storeInDict s.heap.objs.size (.str name tk) name v) Q E { s with heap:=(s.heap.push emptyDict).update x fun o:Obj=>{ o with dict:=some s.heap.objs.size } }:=fun {Q E} hq=>by
  unfold Builtin.ObjectAttr.storeInDict
  refine wpAny_bind (wpAny_pure (wpAny_bind ?_))
  unfold nsSet
  refine wpAny_bind (wpAny_bind (wpAny_askSetting (wpAny_pure (wpAny_bind (wpAny_mkText (wpAny_bind (wpAny_loadPart D ?_)))))))
  dsimp only
  have c:(!(#[]:Array DictEntry).any (·.key.isStr name)&&(#[]:Array DictEntry).any (·.refKey))=false:=by simp
  rw[aRefKeyMayBeTheName_at,c]
  have e1:=putName_dict name (PyData.keyHash W.w.params name) (.str name s.toks) v [] 0
  have hf:(Obj.putName name (PyData.keyHash W.w.params name) (.str name s.toks) v (dictOf [] 0)).isFreed=false:=by rw[e1];rfl
  have D':=Heap.get?_update_self (Obj.putName name (PyData.keyHash W.w.params name) (.str name s.toks) v) D hf
  rw[e1] at D'
  refine wpAny_updatePart D ?_
  refine wpAny_bind (wpAny_lookBehind D' (pastItsLine_dict (by rw[List.size_toArray,sizeLine_eq];have:=ku (name:=name) (hsh:=PyData.keyHash W.w.params name) (key:=.str name s.toks) (v:=v) [];simp only[List.length_nil] at this;exact fS this (by simp +arith only))) ?_)
  refine wpAny_pure (hq _ ((Heap.get?_update_other _ _ ne).trans hx2) ⟨_,(putL name (PyData.keyHash W.w.params name) (.str name s.toks) v []).toArray,_,D',⟨rfl,rfl,rfl⟩,rfl,?_,?_,?_⟩ ?_)
  ·intro e m
   have m2:e∈putL name (PyData.keyHash W.w.params name) (.str name s.toks) v []:=by simpa using m
   exact md (W:=W) (fun e m=>by cases m) e m2
  ·simpa [stored] using lJ (W:=W) (name:=name) (hsh:=PyData.keyHash W.w.params name) (tk:=s.toks) (v:=v) .nil List.nodup_nil
  ·simp
  ·intro b o nb e
   have lt:=Heap.lt_size e
   exact(Heap.get?_update_other _ _ (show s.heap.objs.size≠b from Nat.ne_of_gt lt)).trans ((Heap.get?_update_other _ _ (Ne.symm nb)).trans (K1 _ _ e))
 show wpAny _ _ (do let d ← alloc { cls:=Value.type "dict",data:=Data.dict #[] };update x fun o=>{ o with dict:=some d };dictMade (.ref C) x d) _ _ _
 refine wpAny_bind (wpAny_alloc (wpAny_bind (wpAny_update hx1 ?_)))
 refine wpAny_pure (a:=some s.heap.objs.size) ?_
 exact tail fun h' a b c=>h h' _ (aw (Nat.le_refl _)) ne a b c
end
inductive BV (body:List Stmt)(nE nI n1 n2 n3 a1 a2:Str):Prop where
 | mk (q1:Pos)(q2:Pos)(q3:Pos)(q4:Pos)(q5:Pos)(q6:Pos)(r1:Pos)(r2:Pos)(r3:Pos)(r4:Pos)(t1:Pos)(t2:Pos)(t3:Pos)(t4:Pos)
  (c0:body=[.Expr (.Call (.Attribute (.Name nE q1) nI q2) [.Name n1 q3,.Name n2 q4] [] q5) q6,.Assign [.Attribute (.Name n1 r1) a1 r2] (.Name n2 r3) r4,.Assign [.Attribute (.Name n1 t1) a2 t2] (.Name n3 t3) t4])
  (c1:(q2.endLine == q5.line)=true)
structure Fl (body:List Stmt)(nE nI n1 n2 n3 a1 a2:Str):Prop where
 is:BV body nE nI n1 n2 n3 a1 a2
structure ua (W:Wd)(fd:FuncData)(n1 n2 n3 a1 a2:Str):Prop where
 co:fd.scope.isCoroutine=false
 gen:fd.scope.isGenerator=false
 kind:fd.scope.kind = .function
 gl:fd.globals=mainGlobals
 bi:fd.builtins=builtinsNs
 par:iR fd.params [n1,n2,n3]
 dflt:∃ T o tk nn,fd.defaults = .ref T∧W.K.lookup T=some o∧o.data = .seq #[.int 0 tk] nn
 Fp:∀ x∈fd.scope.names,x.2≠.cell
 k1:fd.scope.names.lookup n1=some .local
 k2:fd.scope.names.lookup n2=some .local
 k3:fd.scope.names.lookup n3=some .local
 kE:fd.scope.names.lookup (Str.ofString "Exception")=some .globalImplicit
 d1:(n1 == ("__debug__" : Str))=false
 d2:(n2 == ("__debug__" : Str))=false
 d3:(n3 == ("__debug__" : Str))=false
 gE:nsIn W.K mainGlobals (Str.ofString "Exception")=some none
 bE:nsIn W.K builtinsNs (Str.ofString "Exception")=some (some (.type "Exception"))
 body:∃ bd,fd.body = .stmts bd∧Fl bd (Str.ofString "Exception") (Str.ofString "__init__") n1 n2 n3 a1 a2
structure oQ (W:Wd)(C fI:Addr)(a1 a2:Str):Prop where
 exc:excIn W.K C=true
 init:findIn W.K (.ref C) "__init__" = some (some (.ref fI))
 isFn:typeIn W.K (.ref fI)=some (.type "function")
 set:findIn W.K (.ref C) "__setattr__" = some (some (.builtin "object.__setattr__"))
 plain:Stores W.K C
 t1:takerIn W.K C a1=some none
 t2:takerIn W.K C a2=some none
 hd:hasDictIn W.K C=true
 Ck:typeIn W.K (.ref C)=some (.type "type")
section
variable {W:Wd}{A:Around}{s:Shared}
theorem dq (hk:fd.scope.kind = .function)(hl:fd.scope.names.lookup n=some .local)(hd:(n == ("__debug__" : Str))=false)
  (hn:s.heap.Ns L m)(hv:m n=some v)(h:Q v s):wpAny M A (eval (.Name n p) (callEnv fd L a)) Q E s:=wpAny_Name (wpAny_loadName_local (env:=callEnv fd L a) hk hl hn hv h) hd
theorem Gr {n1 n2 n3:Str}{a b c:Value}(nd:[n1,n2,n3].Nodup):[(n1,a),(n2,b),(n3,c)].reverse.lookup n1=some a∧[(n1,a),(n2,b),(n3,c)].reverse.lookup n2=some b∧[(n1,a),(n2,b),(n3,c)].reverse.lookup n3=some c:=by
 have e12:(n1 == n2)=false:=beq_false_of_ne fun z=>(List.nodup_cons.mp nd).1 (z▸.head _)
 have e13:(n1 == n3)=false:=beq_false_of_ne fun z=>(List.nodup_cons.mp nd).1 (z▸.tail _ (.head _))
 have e23:(n2 == n3)=false:=beq_false_of_ne fun z=>(List.nodup_cons.mp (List.nodup_cons.mp nd).2).1 (z▸.head _)
 refine⟨?_,?_,?_⟩
 ·show List.lookup n1 [(n3,c),(n2,b),(n1,a)]=_
  rw[List.lookup_cons,e13,List.lookup_cons,e12];exact List.lookup_cons_self
 ·show List.lookup n2 [(n3,c),(n2,b),(n1,a)]=_
  rw[List.lookup_cons,e23];exact List.lookup_cons_self
 ·exact List.lookup_cons_self
theorem ua.binds (X:W.K.In s.heap)(B:ua W fd n1 n2 n3 a1 a2)(hvs:vs=[m,sp]∨(vs=[m]∧∃ T o tk nn,fd.defaults = .ref T∧W.K.lookup T=some o∧o.data = .seq #[.int 0 tk] nn∧sp = .int 0 tk)) :
  BindsTo s fd ⟨x :: vs,[]⟩ [(n1,x),(n2,m),(n3,sp)]:=fun M A E Q hq=>by
 refine eE4 (fun T o tk nn=>aA3 fun e1 e2 e3=>?_) (B.dflt)
 have hs:∀ (A:Around)(E:Value→Shared→Prop)(Q:Option (Array Value)→Shared→Prop),Q (some #[.int 0 tk]) s→wpAny M A (seqItems? fd.defaults) Q E s:=fun A E Q q=>by rw[e1];exact wpAny_seqItems (X _ _ e2) e3 q
 refine oO (fun z=>?_) (aA2 fun z=>eE4 fun T' o' tk' nn'=>aA4 fun f1 f2 f3 f4=>?_) hvs
 ·rw[z];exact dK (vs:=[x,m,sp]) (ds:=[.int 0 tk]) B.par hs rfl (Nat.le_refl 3) (Nat.le_add_left 1 2) (Nat.le_add_right 3 1) hq
 ·rw[e1] at f1;replace f1:=PySem.Value.ref.inj f1;subst f1
  have f2:=sj e2 f2;subst f2
  rw[e3] at f3;cases f3
  rw[z];exact dK (vs:=[x,m]) (ds:=[.int 0 tk]) B.par hs rfl (Nat.le_succ 2) (Nat.le_add_left 1 2) (Nat.le_refl 3) (f4▸hq)
theorem yB {C fI x t0:Addr}{n1 n2 n3 a1 a2:Str}{oc:Value}{od:Option Addr}{osl:Array (Option Value)}{fd:FuncData}{m sp:Value}{vs:List Value}{R:Result→Shared→Prop}(X:W.K.In s.heap)(lim:s.heap.NoLimit)(Y:oQ W C fI a1 a2)
  (hf:W.K.lookup fI=some ⟨oc,od,.func fd,osl⟩)(hcd:codeIn W.K fd.code fd.qualname=true)(B:ua W fd n1 n2 n3 a1 a2)(hroom:A.depth < recursionLimit)
  (hx:s.heap.get? x=some (cQ C t0))(hxK:W.K.lookup x=none)(hvs:vs=[m,sp]∨(vs=[m]∧∃ T o tk nn,fd.defaults = .ref T∧W.K.lookup T=some o∧o.data = .seq #[.int 0 tk] nn∧sp = .int 0 tk))(ne12:a1≠a2)
  (h:∀ h' dx t2 tk,(∀ b o,b≠x→s.heap.get? b=some o→h'.get? b=some o)→s.heap.get? dx=none→dx≠x→h'.get? x=some { cls:=.ref C,dict:=some dx,data:=.fields #[.ref t2,.none,.none,.none,.bool false,.none] } →
   h'.DictOf W.sk dx [(a1,m),(a2,sp)]→R (.ok (.ret .none)) ⟨h',s.gens,s.drawn,tk,s.os⟩) :
  codeAny (model W.prog W.w) A (.call (.ref fI) ⟨.ref x :: vs,[]⟩) R s:=by
 refine eE1 (fun bd=>aA2 fun hb hsh=>?_) (B.body)
 refine codeAny_call_def (body:=bd) hroom (X _ _ hf) rfl lim (codeRec_of X hcd) hb (B.binds X hvs) B.Fp (fun y hy=>?_) (fun h₀ hns hk=>?_) B.co B.gen B.kind
 ·cases hy with
  | head=>exact B.k1
  | tail _ hy=>cases hy with
   | head=>exact B.k2
   | tail _ hy=>rw[List.mem_singleton.mp hy];exact B.k3
 ·obtain⟨q1,q2,q3,q4,q5,q6,r1,r2,r3,r4,u1,u2,u3,u4,rfl,hline⟩:=hsh.is
  generalize hL:s.heap.objs.size=L at *
  have hLx:L≠x:=by rw[← hL];exact Nat.ne_of_gt (Heap.lt_size hx)
  refine aA3 (fun m1 m2 m3=>?_) (Gr (a:=.ref x) (b:=m) (c:=sp) B.par.nd)
  have ni:interactive (callEnv fd L fI)=false:=fh B.kind
  have X0:W.K.In h₀:=X.keeps hk
  have hx0:=hk _ _ hx
  have hns0:=hns
  refine wpAny_execs_cons (wpAny_Expr_any (mu (by rfl) (by rfl) hline (wpAny_Name ?_ (by decide))) ni (by rfl))
  rw[loadName_read (env:=callEnv fd L fI) B.kind B.kE]
  unfold loadGlobal
  rw[show(callEnv fd L fI).globals=mainGlobals from B.gl,show(callEnv fd L fI).builtins=builtinsNs from B.bi]
  refine wpAny_bind ((looks_nsIn X0 B.gE).here ?_)
  show wpAny _ _ (nsGet builtinsNs _ >>= _) _ _ _
  refine wpAny_bind ((looks_nsIn X0 B.bE).here ?_)
  refine wpAny_pure ?_
  intro pl
  refine qE (s:=⟨h₀,s.gens,s.drawn,_,s.os⟩) X0 ?_
  refine Calls.callWith_builtin (by rfl) (Calls.evalArgs_plain (Calls.spliced_cons (dq B.kind B.k1 B.d1 hns0 m1 (Calls.spliced_cons (dq B.kind B.k2 B.d2 hns0 m2 (Calls.spliced_nil ?_))))))
  have EX:=jV (M:=model W.prog W.w) X0 Y.exc
  refine eE4 (fun oc' od' cd' sl'=>aA2 fun hC' U=>?_) (EX.obj)
  refine uG (s:=⟨h₀,s.gens,s.drawn,_,s.os⟩) (C:=C) hC' EX.vD hx0 rfl rfl rfl (by size_fits) ?_
  generalize hh1:(h₀.push (fq [m])).update x (Obj.mapFields (·.setIfInBounds 0 (.ref h₀.objs.size)))=h1
  have hx1:h1.get? x=some { cls:=.ref C,data:=.fields #[.ref h₀.objs.size,.none,.none,.none,.bool false,.none] }:=by
   rw[← hh1]
   exact Heap.get?_update_self (Obj.mapFields (·.setIfInBounds 0 (.ref h₀.objs.size))) (Heap.get?_push_of_some _ hx0) rfl
  have k1:∀ b o,b≠x→h₀.get? b=some o→h1.get? b=some o:=fun b o nb e=>by
   rw[← hh1]
   exact(Heap.get?_update_other _ _ (Ne.symm nb)).trans (Heap.get?_push_of_some _ e)
  have X1:W.K.In h1:=fun b o e=>by
   exact k1 b o (fun z=>by rw[z,hxK] at e;exact zns e) (X0 b o e)
  have ns1:h1.Ns L (fun y=>[(n1,Value.ref x),(n2,m),(n3,sp)].reverse.lookup y):=by
   revert hns0;refine eE3 fun oL es ep=>aA3 fun g dd r=>?_
   exact⟨oL,es,ep,k1 _ _ hLx g,dd,r⟩
  dsimp only
  refine wpAny_execs_cons (wpAny_Assign_stores (dq B.kind B.k2 B.d2 ns1 m2 ?_) (by rfl) (by rfl))
  rw[show ∀ env,(assignEach [Expr.Attribute (.Name n1 r1) a1 r2] env).map (·.2)=[assign (.Attribute (.Name n1 r1) a1 r2) env] from fun U=>rfl]
  refine ck (env:=callEnv fd L fI) (o:=.Name n1 r1) (attr:=a1) (pos:=r2) (v:=m) (dq B.kind B.k1 B.d1 ns1 m1 ?_)
  have I1:PySem.W.InstAt h1 x { cls:=.ref C,data:=.fields #[.ref h₀.objs.size,.none,.none,.none,.bool false,.none] } C none:=⟨hx1,rfl,rfl,trivial⟩
  refine set_plain (s:=⟨h1,s.gens,s.drawn,_,s.os⟩) X1 I1 Y.set (uO (s:=⟨h1,s.gens,s.drawn,_,s.os⟩) X1 hx1 rfl rfl rfl Y.plain Y.t1 Y.hd fun h2 dx nd dne hx2 gd2 k2=>?_)
  have X2:W.K.In h2:=fun b o e=>k2 b o (fun z=>by rw[z,hxK] at e;exact zns e) (X1 b o e)
  have ns2:h2.Ns L (fun y=>[(n1,Value.ref x),(n2,m),(n3,sp)].reverse.lookup y):=by
   revert ns1;refine eE3 fun oL es ep=>aA3 fun g dd r=>?_
   exact⟨oL,es,ep,k2 _ _ hLx g,dd,r⟩
  dsimp only
  refine wpAny_execs_cons (wpAny_Assign_stores (dq B.kind B.k3 B.d3 ns2 m3 ?_) (by rfl) (by rfl))
  rw[show ∀ env,(assignEach [Expr.Attribute (.Name n1 u1) a2 u2] env).map (·.2)=[assign (.Attribute (.Name n1 u1) a2 u2) env] from fun U=>rfl]
  refine ck (env:=callEnv fd L fI) (o:=.Name n1 u1) (attr:=a2) (pos:=u2) (v:=sp) (dq B.kind B.k1 B.d1 ns2 m1 ?_)
  refine eE2 (fun es' n'=>aA2 fun I2 gl=>?_) (i6 hx2 rfl rfl rfl gd2)
  refine set_plain (s:=⟨h2,s.gens,s.drawn,_,s.os⟩) X2 I2 Y.set (ub (s:=⟨h2,s.gens,s.drawn,_,s.os⟩) X2 hx2 rfl rfl rfl gd2 Y.plain Y.t2 Y.hd (by simp) fun h3 gd3 sb3=>?_)
  dsimp only
  refine wpAny_execs_nil ?_
  have est:stored [(a1,m)] a2 sp=[(a1,m),(a2,sp)]:=by
   have:(a1 == a2)=false:=by simpa using ne12
   simp[stored,this,ne12]
  rw[est] at gd3
  refine h h3 dx _ _ (fun b o nb e=>?_) ?_ dne ((sb3.2 x (Ne.symm dne)).trans hx2) gd3
  ·have e1:=k1 b o nb (hk b o e)
   have e2:=k2 b o nb e1
   refine(sb3.2 b (fun z=>?_)).trans e2
   rw[z] at e1;rw[show(⟨h1,s.gens,s.drawn,_,s.os⟩:Shared).heap=h1 from rfl] at nd
   rw[nd] at e1;exact zns e1
  ·cases q:s.heap.get? dx with
   | none=>rfl
   | some o =>
    have e1:=k1 dx o dne (hk dx o q)
    rw[show h1.get? dx=none from nd] at e1;exact zns e1
end
structure XOk (W:Wd)(fI:Addr)(a1 a2:Str):Prop where
 fn:∃ oc od osl fd n1 n2 n3,W.K.lookup fI=some ⟨oc,od,.func fd,osl⟩∧codeIn W.K fd.code fd.qualname=true∧ua W fd n1 n2 n3 a1 a2
 m:ag a1 aK
 s:ag a2 il
theorem qK (t:fA c xs H k=true):∃ m sp,(xs=[m,sp]∨(xs=[m]∧sp = .int 0))∧k H.n (H.add (.inst c [(aK,m),(il,sp)]))=true:=by
 cases xs with
 | nil=>exact ft t
 | cons m r =>
  cases r with
  | nil =>
   have t:bM H (.inst c [(aK,m),(il,.int 0)]) k=true:=t
   rw[aT] at t
   exact⟨m,.int 0,.inr ⟨rfl,rfl⟩,t⟩
  | cons sp q =>
   cases q with
   | nil =>
    have t:bM H (.inst c [(aK,m),(il,sp)]) k=true:=t
    rw[aT] at t
    exact⟨m,sp,.inl rfl,t⟩
   | cons _ _=>exact ft t
noncomputable abbrev excAt (Ca dx t2:Addr):Obj:={ cls:=.ref Ca,dict:=some dx,data:=.fields #[.ref t2,.none,.none,.none,.bool false,.none] }
inductive Made (W:Wd)(fs:List Env)(ι:Io)(s:Shared)(Ca:Addr)(k:Nat→Hp→Bool)(v:Value)(s':Shared):Prop where
 | mk (ι':Io)(H':Hp)(i:Nat)(p:Addr × Addr)(t2:Addr)(ev:v = .ref p.1)(ei:ι' i=some p)(S:St W fs ι' H' s')(E:Ext W noX ι s.heap ι' s'.heap)(g:s'.heap.get? p.1=some (excAt Ca p.2 t2))(ne:∀ j q,ι j=some q→p.1≠q.1)(t:k i H'=true)
section
variable {W:Wd}{A:Around}{fs:List Env}{ι:Io}{H:Hp}{s:Shared}{fI:Addr}{a1 a2:Str}{C:Addr}
theorem wz (XO:XOk W fI a1 a2)(hC:W.cls c=some C)(Y:oQ W C fI a1 a2)(S:St W fs ι H s)(hdep:A.depth+1 < recursionLimit)(rvs:RVs W ι s.heap vs xs)(t:fA c xs H k=true) :
  wpAny (model W.prog W.w) A (call (.ref C) vs) (fun v s'=>Made W fs ι s C k v s'∧∀ b o,s.heap.get? b=some o→s'.heap.get? b=some o) E s:=by
 refine eE2 (fun m sp=>aA2 fun hx t=>?_) (qK t)
 refine eE7 (fun oc od osl fd n1 n2 n3=>aA3 fun hf hcd B=>?_) (XO.fn)
 refine eE4 (fun T o tk nn=>aA3 fun e1 e2 e3=>?_) (B.dflt)
 obtain⟨mv,sv,hvs,rm,rs⟩:∃ mv sv,(vs=[mv,sv]∨(vs=[mv]∧∃ T o tk nn,fd.defaults = .ref T∧W.K.lookup T=some o∧o.data = .seq #[.int 0 tk] nn∧sv = .int 0 tk))∧RV W ι s.heap mv m∧RV W ι s.heap sv sp:=by
  rcases hx with rfl | ⟨rfl,rfl⟩
  ·cases rvs with
   | cons a b=>cases b with
    | cons b c=>cases c;exact⟨_,_,.inl rfl,a,b⟩
  ·cases rvs with
   | cons a b=>cases b;exact⟨_,_,.inr ⟨rfl,T,o,tk,nn,e1,e2,e3,rfl⟩,a,.int _ _⟩
 obtain⟨hh,g,dr,tk0,os⟩:=s
 refine wpAny_call ?_
 have hlen:vs.length≤sizeLine:=by
  rcases hvs with rfl | ⟨rfl,_⟩<;>(unfold sizeLine;simp)
 refine lN (jV S.ground Y.exc) hlen (looks_findIn S.ground Y.init) (fun self=>bind_fn S.ground self Y.isFn) ?_
 have K1:∀ b o,hh.get? b=some o→((hh.push (fq vs)).push (cQ C hh.objs.size)).get? b=some o:=fun b o e=>Heap.get?_push_of_some _ (Heap.get?_push_of_some _ e)
 have hx:((hh.push (fq vs)).push (cQ C hh.objs.size)).get? (hh.objs.size+1)=some (cQ C hh.objs.size):=by heap_get
 have nx:hh.get? (hh.objs.size+1)=none:=aw (Nat.le_succ _)
 have hxK:W.K.lookup (hh.objs.size+1)=none:=by
  cases q:W.K.lookup (hh.objs.size+1) with
  | none=>rfl
  | some o=>have:=S.ground _ _ q;rw[show(⟨hh,g,dr,tk0,os⟩:Shared).heap=hh from rfl,nx] at this;exact zns this
 have ne12:a1≠a2:=fun z=>by
  have:=(XO.m.eq_iff XO.s).mp z
  exact absurd this (by decide)
 refine yB (s:=⟨(hh.push (fq vs)).push (cQ C hh.objs.size),g,dr,tk0,os⟩) (S.ground.keeps K1) (S.lim.keeps K1) Y hf hcd B (by rw[depth_under_make];exact hdep) hx hxK hvs ne12 fun h' dx t2 tk2 k2 nd dne gx gd=>?_
 have K2:∀ b o,hh.get? b=some o→h'.get? b=some o:=fun b o e=>k2 b o (fun z=>by rw[z,nx] at e;exact zns e) (K1 b o e)
 have nd0:hh.get? dx=none:=by
  cases q:hh.get? dx with
  | none=>rfl
  | some o=>have:=K1 _ _ q;rw[show((hh.push (fq vs)).push (cQ C hh.objs.size)).get? dx=none from nd] at this;exact zns this
 refine⟨rfl,?_⟩
 obtain⟨S2,E2⟩:=S.new (s:=⟨hh,g,dr,tk0,os⟩) K2 (p:=(hh.objs.size+1,dx)) (o:=.inst c [(aK,m),(il,sp)]) (tk:=tk2) (dr:=dr) nx nd0 fun tk=>by
  have sub:=aN (p:=(hh.objs.size+1,dx)) S.unused
  exact⟨by simp,dne,C,_,_,hC,gx,rfl,rfl,⟨rfl,fun U U z=>by replace z:=PySem.Data.fields.inj z;subst z;rfl⟩,gd,.cons XO.m (rm.mono sub tk) (.cons XO.s (rs.mono sub tk) .nil)⟩
 refine⟨⟨_,_,H.n,_,t2,rfl,ao _ _ _,S2,E2,gx,fun j q e z=>?_,t⟩,K2⟩
 obtain⟨y,gy⟩:=S.iH (.inr ⟨j,q,e,.inl z⟩)
 rw[show(⟨hh,g,dr,tk0,os⟩:Shared).heap=hh from rfl,nx] at gy;exact zns gy
end
section
variable {W:Wd}{sc:Sc}{A:Around}{fs:List Env}{env:Env}{ι:Io}{H:Hp}{s:Shared}{fI:Addr}{a1 a2:Str}{C:Addr}
theorem qP (hh:A.handled=none)(Y:oQ W C fI a1 a2)
  (h:wpAny (model W.prog W.w) A x (fun v s'=>Made W fs ι s C k v s'∧E v s') E s):wpAny (model W.prog W.w) A (raiseStmt env (some x) none) Q E s:=by
 unfold raiseStmt
 refine wpAny_bind (wpAny_mono h (fun v s₁ h₁=>?_) fun U U x=>x)
 refine bC fun G=>?_;obtain⟨⟨ι',H',i,p,t2,rfl,ep,S',E',gx,_,_⟩,hE⟩:=h₁
 have EX:=jV (M:=model W.prog W.w) S'.ground Y.exc
 obtain⟨⟨oc',od',cd',sl',hC,_⟩,made,base,self,vD,subB,noA,noN,call,typ,noT⟩:=EX
 obtain⟨hp,g,d,tk,os⟩:=s₁
 have tyX:Looks (model W.prog W.w) hp (typeOf (.ref p.1)) (.ref C):=(Looks.ld gx).andThen .now
 have insB:Looks (model W.prog W.w) hp (isInstance (.ref p.1) (.type "BaseException")) true:=tyX.andThen subB
 have tyC:Looks (model W.prog W.w) hp (typeOf (.ref C)) (.type "type"):=looks_typeIn S'.ground Y.Ck
 have nt:Looks (model W.prog W.w) hp (isType (.ref p.1)) false:=(Looks.ld gx).andThen .now
 have ne:Looks (model W.prog W.w) hp (isExcClass (.ref p.1)) false:=by unfold isExcClass;exact nt.andThen .now
 have xv:Looks (model W.prog W.w) hp (excFromValue (.ref p.1) "exceptions must derive from BaseException") (.ref p.1):=by unfold excFromValue;exact ne.andThen (insB.andThen .now)
 have ri:Looks (model W.prog W.w) hp (raisedInstance (.ref p.1)) (.ref p.1):=by unfold raisedInstance;exact tyX.andThen (tyC.andThen .now)
 apply G;refine wpAny_bind (wpAny_pure (wpAny_bind (wpAny_holding (xv.here ?_))))
 refine wpAny_bind (nt.here ?_)
 rw[if_neg Bool.false_ne_true]
 refine wpAny_bind (ri.here ?_)
 unfold setFlight
 refine wpAny_bind (wpAny_bind (wpAny_field gx rfl (x:=.none) rfl ?_))
 rw[if_neg (by decide)]
 exact wpAny_pure (wpAny_raiseNew_none hh hE)
set_option tactic.hygienic true in
theorem Dz (XO:XOk W fI a1 a2)(hC:W.cls c=some C)(Y:oQ W C fI a1 a2)(hkeep:keepIn W.K (.ref C)=true)(hg:SX W sc (xk (.cls c)) e1)(hl:SA W sc l es)
  (he:∀ env,eval (.Call e1 es [] pos) env=(do callWith pos (← eval e1 env) [] (backTo pos (starEach es env)) (backToKw pos (keywordEach [] env))):=by intros;rfl):SS W sc (GS c l) (.Raise (some (.Call e1 es [] pos)) none pos'):=fun r d A fs env f ι H s kn kc kr ke h t=>by
 rw[arm_exec_Raise]
 rw[show evalOpt (some (.Call e1 es [] pos)) env=some (eval (.Call e1 es [] pos) env) from rfl,show evalOpt none env=none from rfl]
 refine wpAny_bind (wpAny_standAt (qP h.ar.handled Y (k:=fun i h=>ke i f h) (fs:=fs) (ι:=ι) (wpAny_bind ?_)))
 rw[he]
 have fin:∀ v s1,Made W fs ι s C (fun i h=>ke i f h) v s1→PXE W sc fs env ι s ke v s1:=fun v s1 P=>by
  obtain⟨ι',H',i,p,t2,rfl,ep,S',E',gx,_,t⟩:=P
  exact⟨ι',H',f,i,p,rfl,ep,S',E'.atl,h.fr.ext E' id,.inl ⟨_,_,gx,rfl,rfl⟩,t⟩
 have t:l r f H (fun vs h=>fA c vs h fun i h=>ke i f h) (fun i h=>ke i f h)=true:=t
 refine wpAny_bind (wpAny_mono (hg r d A fs env f ι H s (fun x h=>match x with | .cls c'=>Nat.beq c c'&&l r f h (fun vs h=>fA c vs h fun i h=>ke i f h) (fun i h=>ke i f h)| _=>false) (fun U U=>false) h (by
  show(Nat.beq c c&&_)=true
  rw[show Nat.beq c c=true from Nat.beq_refl c,Bool.true_and];exact t)) (fun v s1 P=>?_) fun U U z=>(AY z).elim)
 refine bC fun G=>?_;obtain⟨ι1,H1,x,S1,E1,rv,t1⟩:=P
 cases x<;>first | exact nf t1 | exact ns t1 | skip
 rename_i c'
 simp only[Bool.and_eq_true] at t1
 obtain⟨t0,t1⟩:=t1
 obtain rfl:=aD t0
 refine eE1 (fun U=>aA2 fun z8q1 hc'=>?_) (rv.inv);obtain rfl:=z8q1;apply G;next =>
  rw[hC] at hc';replace hc':=ab hc';subst hc'
  refine callWith_of (P:=W.K.In) (by rw[hl.plain];rfl) (keeps_K hkeep) (wpAny_mono (hl.args _ pos r d A fs env f ι1 H1 s1 _ _ (h.next S1 E1) t1) (fun a s2 P=>?_) fun U U z=>(z.px (h.fr.ext E1 id)).from E1.atl)
  obtain⟨hkw,ι2,H2,xs,S2,E2,rvs,t2⟩:=P
  rw[hkw]
  refine⟨S2.ground,wpAny_mono (wz XO hC Y S2 (by have:=h.ar.depth;show A.depth+1 < 1000;omega) rvs t2) (fun v s3 P=>?_) fun U U z=>z⟩
  have P':Made W fs ι s C (fun i h=>ke i f h) v s3:=by
   obtain⟨⟨ι3,H3,i,p,t3,rfl,ep,S3,E3,gx,ap,t⟩,_⟩:=P
   exact⟨ι3,H3,i,p,t3,rfl,ep,S3,(E1.trans E2).trans E3,gx,fun j q e=>ap j q (E2.sub _ _ (E1.sub _ _ e)),t⟩
  exact wpAny_bind (wpAny_standAt (wpAny_pure ⟨P',fin _ _ P'⟩))
end
def SHs (W:Wd)(sc:Sc)(C:Tri Kl)(hs:CH)(l:List ExceptHandler):Prop:=∀ (r:Rt)(d:Nat)(A:Around)(fs:List Env)(env:Env)(f:Fm)(ι:Io)(H:Hp)(s:Shared)(ι0:Io)(s0:Shared)(i:Nat)(p:Addr × Addr)(T:Addr)(c:Nat)(at_:List (Nat × Vl))(ini:Option Nat)(exc:Bool)(ms:List (Nat × Nat))(sup:List Nat)
 (kn kc:KF)(kr:KV)(ke:KX),Here W sc r d A fs env f ι H s→ι i=some p→H.t.get i=some (.inst c at_)→C.get c=some (.mk ini exc ms sup)→Ext W (atL env) ι0 s0.heap ι s.heap→Traced s.heap p.1 T .none→s0.heap.get? env.locals≠none→s0.heap.get? T=none→W.base.get? T=none→¬ Own W ι T →
 hs r i c sup f H kn kc kr ke=true→wpAny (model W.prog W.w) A (handleBy (.ref p.1) env l) (PS W sc fs env ι0 s0 kn kc kr) (PXE W sc fs env ι0 s0 ke) s
theorem gJ (t:isExc x c sup a b=true):((Nat.beq x c||nin x sup)=true∧a=true)∨((Nat.beq x c||nin x sup)=false∧b=true):=by
 have t:(@Bool.rec (fun U=>Bool) ((@Bool.rec (fun U=>Bool) (b) (a) (nin x sup))) (a) (Nat.beq x c))=true:=t
 cases q:Nat.beq x c with
 | true=>rw[q] at t;exact .inl ⟨rfl,t⟩
 | false =>
  rw[q] at t
  cases q2:nin x sup with
  | true=>rw[q2] at t;exact .inl ⟨rfl,t⟩
  | false=>rw[q2] at t;exact .inr ⟨rfl,t⟩
structure ux (W:Wd)(sc:Sc)(C:Tri Kl)(x:Nat)(Cx:Addr)(n:Str):Prop where
 exc:excIn W.K Cx=true
 nm:sc.names.lookup n=some .globalImplicit
 gl:nsIn W.K mainGlobals n=some (some (.ref Cx))
 db:(n == ("__debug__" : Str))=false
 mro:∀ c Ca ini e ms sup,W.cls c=some Ca→C.get c=some (.mk ini e ms sup)→mroIn W.K Ca (.ref Cx)=some (Nat.beq x c||nin x sup)
section
variable {W:Wd}{sc:Sc}{C:Tri Kl}
theorem DW:SHs W sc C Ir []:=fun r d A fs env f ι H s ι0 s0 i p T c at_ ini exc ms sup kn kc kr ke h ep go hC E0 Tr l0 n0 nb no t=>by
 refine wpAny_handleBy_nil ?_
 refine eE3 (fun L e0 rr=>aA3 fun hL hfs he0=>?_) (h.eo.frame)
 unfold PySem.passOn
 refine bC fun G=>?_;obtain⟨⟨oe,vs,g,dd,h1⟩,_⟩:=id Tr
 apply G;refine wpAny_bind (wpAny_field g dd h1 ?_)
 rw[if_neg (by simp)]
 refine wpAny_bind (fB (h₀:=s0.heap) h.st Tr nb no n0 env.frame fun s2 S2 E2 Tr2=>?_)
 exact wpAny_throw ⟨ι,H,f,i,p,rfl,ep,S2,E0.way E2,h.fr.way E2 l0,.inr ⟨T,_,Tr2,.inr ⟨L,hL,by rw[hL];rfl⟩,n0,nb,no⟩,t⟩
theorem oq {x:Nat}{Cx:Addr}{n:Str}(X:ux W sc C x Cx n){A:Around}{fs:List Env}{env:Env}{ι:Io}{H:Hp}{s:Shared}(eo:bR W sc env fs)(S:St W fs ι H s){i:Nat}{p:Addr × Addr}(ep:ι i=some p){c:Nat}{at_:List (Nat × Vl)}(go:H.t.get i=some (.inst c at_))
  (hC:C.get c=some (.mk ini exc ms sup))(h:R (.ok (if(Nat.beq x c||nin x sup)=true then .brk else .next)) s) :
  codeAny (model W.prog W.w) A (.handlers (.ref p.1) [.ExceptHandler (some (.Name n tp)) none [] pos] env) R s:=by
 have hk:env.kindOf n=some .globalImplicit:=by unfold Env.kindOf;rw[eo.names];exact X.nm
 refine codeAny_handlers_test (wpAny_Name ?_ X.db)
 rw[loadName_read eo.kind hk]
 unfold loadGlobal
 rw[eo.globals]
 refine wpAny_bind ((looks_nsIn S.ground X.gl).here (wpAny_pure ?_))
 refine bC fun G=>?_;obtain⟨ln,ne,Ca,o,kvs,hCa,g,hc,hd,hn,gd,rk⟩:=S.ro ep go
 have EX:=jV (M:=model W.prog W.w) S.ground X.exc
 obtain⟨⟨oc',od',cd',sl',hCx,_⟩,made,base,self,vD,subB,noA,noN,call,typ,noT⟩:=EX
 have ty:Looks (model W.prog W.w) s.heap (typeOf (.ref p.1)) (.ref Ca):=(Looks.ld g).andThen (by rw[hc];exact .now)
 have sub:=looks_mroIn (M:=model W.prog W.w) S.ground (X.mro _ _ _ _ _ _ hCa hC)
 have it:Looks (model W.prog W.w) s.heap (isType (.ref Cx)) true:=(Looks.ld hCx).andThen .now
 have ie:Looks (model W.prog W.w) s.heap (isExcClass (.ref Cx)) true:=by unfold isExcClass;exact it.andThen (by rw[if_pos rfl];exact subB)
 apply G;unfold excMatches
 refine wpAny_bind (noT.here ?_)
 rw[if_neg Bool.false_ne_true]
 refine wpAny_bind (wpAny_pure ?_)
 dsimp only
 rw[List.forIn_cons]
 refine wpAny_bind (wpAny_bind (wpAny_bind (ie.here ?_)))
 rw[if_neg (show ¬ (!true)=true by decide)]
 refine wpAny_pure ?_
 dsimp only
 rw[List.forIn_nil]
 refine wpAny_pure (wpAny_bind (ty.here ?_))
 rw[List.forIn_cons]
 refine wpAny_bind (wpAny_bind (wpAny_bind (sub.here ?_)))
 cases q:(Nat.beq x c||nin x sup) with
 | true =>
  rw[q,if_pos rfl] at h
  rw[if_pos rfl]
  exact wpAny_pure (wpAny_pure (wpAny_pure h))
 | false =>
  rw[q,if_neg Bool.false_ne_true] at h
  rw[if_neg Bool.false_ne_true]
  refine wpAny_pure ?_
  dsimp only
  rw[List.forIn_nil]
  exact wpAny_pure (wpAny_pure h)
end
def PxC (W:Wd)(v:Vl)(ex:Expr):Prop:=∀ (A:Around)(fs:List Env)(env:Env)(ι:Io)(H:Hp)(s:Shared)(k:KV)(E:Value→Shared→Prop),St W fs ι H s→k v H=true→wpAny (model W.prog W.w) A (eval ex env) (PX W fs noX ι s k) E s
section
variable {W:Wd}{sc:Sc}{C:Tri Kl}
theorem AM {k pos}:PxC W .none (.Constant .none k pos):=fun A fs env ι H s kk E S t=>wpAny_Constant_none ⟨ι,H,_,S,.refl,.none,t⟩
theorem ET {c k pos}(hx:ag x c):PxC W (.str c) (.Constant (.str x) k pos):=fun A fs env ι H s kk E S t =>
 PySem.wpAny_Constant_str ⟨ι,H,_,S.toks _,.of_keeps fun U U e=>e,.str _ hx,t⟩
theorem D6 {x:Nat}{Cx:Addr}{n:Str}(X:ux W sc C x Cx n){v:Vl}{ex:Expr}(hv:PxC W v ex){tp rp pos:Pos}{nx:CH}{rest:List ExceptHandler}(hr:SHs W sc C nx rest) :
  SHs W sc C (GF x v nx) (.ExceptHandler (some (.Name n tp)) none [.Return (some ex) rp] pos :: rest):=fun r d A fs env f ι H s ι0 s0 i p T c at_ ini exc ms sup kn kc kr ke h ep go hC E0 Tr l0 n0 nb no t=>by
 refine wpAny_handleBy_cons (oq X h.eo h.st ep go hC ?_) (by intro q;injection q)
 refine oO (aA2 fun q t=>?_) (aA2 fun q t=>?_) (gJ (a:=kr v H) (b:=nx r i c sup f H kn kc kr ke) t)<;>rw[q]
 ·refine codeAny_handlers_suite (fB (h₀:=s0.heap) h.st Tr nb no n0 none fun s2 S2 E2 Tr2=>?_)
  refine wpAny_execs_cons (wpAny_Return_some (hv _ fs env ι H s2 kr _ S2 t |> fun z=>wpAny_mono z (fun w s3 P=>?_) fun U U z=>z))
  obtain⟨ι3,H3,y,S3,E3,rv,t3⟩:=P
  exact⟨ι3,H3,f,S3,(E0.way E2).trans E3.atl,(h.fr.way E2 l0).ext E3 id,y,rv,t3⟩
 ·exact hr r d A fs env f ι H s ι0 s0 i p T c at_ ini exc ms sup kn kc kr ke h ep go hC E0 Tr l0 n0 nb no t
theorem DH {x:Nat}{Cx:Addr}{n:Str}(X:ux W sc C x Cx n){tp rp pos:Pos}{nx:CH}{rest:List ExceptHandler}(hr:SHs W sc C nx rest) :
  SHs W sc C (Ge x nx) (.ExceptHandler (some (.Name n tp)) none [.Continue rp] pos :: rest):=fun r d A fs env f ι H s ι0 s0 i p T c at_ ini exc ms sup kn kc kr ke h ep go hC E0 Tr l0 n0 nb no t=>by
 refine wpAny_handleBy_cons (oq X h.eo h.st ep go hC ?_) (by intro q;injection q)
 refine oO (aA2 fun q t=>?_) (aA2 fun q t=>?_) (gJ (a:=kc f H) (b:=nx r i c sup f H kn kc kr ke) t)<;>rw[q]
 ·refine codeAny_handlers_suite (fB (h₀:=s0.heap) h.st Tr nb no n0 none fun s2 S2 E2 Tr2=>?_)
  refine wpAny_execs_cons (wpAny_Continue ?_)
  exact⟨ι,H,f,S2,E0.way E2,h.fr.way E2 l0,t⟩
 ·exact hr r d A fs env f ι H s ι0 s0 i p T c at_ ini exc ms sup kn kc kr ke h ep go hC E0 Tr l0 n0 nb no t
set_option tactic.hygienic true in
theorem D2 (hb:SSs W sc b body)(hh:SHs W sc C hs (h1 :: hl)):SS W sc (Hs C b hs) (.Try body (h1 :: hl) [] [] pos):=fun r d A fs env f ι H s kn kc kr ke h t=>by
 refine wpAny_Try_except (wpAny_mono (hb r d A fs env f ι H s kn kc kr _ h t) (fun fl s1 P=>?_) fun v s1 P=>?_)
 ·cases fl with
  | next=>exact wpAny_execs_nil P
  | _=>exact P
 ·refine bC fun G=>?_;obtain⟨ι1,H1,f1,i,p,rfl,ep,S1,E1,F1,t1,q⟩:=P
  have l0:=h.fr.locals
  refine eE1 (fun ob=>aA2 fun go q=>?_) (af q)
  cases ob<;>first | exact nf q | exact ns q | skip
  rename_i c at_
  refine eE4 (fun ini exc ms sup=>aA2 fun hC q=>?_) (du (k:=fun U U U sup=>hs r i c sup f1 H1 kn kc kr ke) q)
  apply G;refine note h.eo h.ar.frames S1 E1 ep t1 fun s2 T L hL S2 E2 Tr n0 nb no=>?_
  refine fB (h₀:=s.heap) S2 Tr nb no n0 none fun s3 S3 E3 Tr3=>?_
  have F3:=(F1.way E2 l0).way E3 l0
  exact hh r d A fs env f1 ι1 H1 s3 ι s i p T c at_ ini exc ms sup kn kc kr ke ⟨h.rt,h.ar,h.eo,F3,S3⟩ ep go hC ((E1.way E2).way E3) Tr3 l0 n0 nb no q
end
section
variable {W:Wd}{sc:Sc}{C:Tri Kl}{M:Model}{A:Around}{E:Value→Shared→Prop}{fs:List Env}{env:Env}{f:Fm}{ι:Io}{H:Hp}{s:Shared}
theorem i5 (hk:env.scope.kind = .function)(hN:env.kindOf n=some .local)(nf:n∉sc.slots)(S:St W fs ι H s)(F:aS W sc env ι s.heap f)
  (h:∀ s' m,St W fs ι H s'→Ext W (atL env) ι s.heap ι s'.heap→aS W sc env ι s'.heap f→s'.heap.Ns env.locals m→m n=some v→(∀ b,b≠env.locals→s'.heap.get? b=s.heap.get? b)→Q () s'):wpAny M A (storeName env n v) Q E s:=by
 refine eE1 (fun m=>aA2 fun hm hr=>?_) (F.ns)
 refine wpAny_storeName_local hN hm (fun h' hm' sb=>?_) (by rw[hk];rfl)
 refine eE3 (fun o' es' ep'=>aA3 fun g' d' U=>?_) (id hm')
 obtain⟨S2,E2⟩:=S.other (b:=env.locals) F.nb F.no sb.extBut (fun o g=>⟨fun U q=>(by revert hm;refine eE3 fun o2 es2 ep2=>aA3 fun g2 d2 U=>?_;rw[g] at g2;replace g2:=ab g2;subst g2;exact q.dE d2),o',g',fun U=>⟨es',ep',d'⟩⟩) (tk:=s.toks+1) (dr:=s.drawn)
 refine h _ _ S2 E2 ⟨F.no,F.nb,⟨_,hm',fun i n' x e1 e2=>?_⟩,F.cells⟩ hm' (by simp) (fun b nb=>sb.2 b nb)
 refine oO (fun z=>?_) (eE1 fun w=>aA2 fun hw rw_=>?_) (hr i n' x e1 e2)
 ·exact .inl z
 ·refine .inr ⟨w,?_,rw_.ext E2⟩
  have:n'≠n:=fun z=>nf (z▸List.mem_of_getElem? e1)
  simp[this,hw]
theorem xV (hk:env.scope.kind = .function)(hN:env.kindOf n=some .local)(nf:n∉sc.slots)(S:St W fs ι H s)(F:aS W sc env ι s.heap f)
  (h:∀ s',St W fs ι H s'→Ext W (atL env) ι s.heap ι s'.heap→aS W sc env ι s'.heap f→(∀ b,b≠env.locals→s'.heap.get? b=s.heap.get? b)→Q () s'):wpAny M A (do bindName env n .none;unbindBehindTheSuite env n pos) Q E s:=by
 refine wpAny_bind (wpAny_bindName (i5 hk hN nf S F fun s1 m S1 E1 F1 hm hmn sb1=>?_))
 unfold unbindBehindTheSuite
 refine wpAny_onRaise ?_
 refine wpAny_unbindName_local hN hm hmn (by rw[hk];rfl) fun h' u hm' sb=>?_
 refine bC fun G=>?_;refine eE3 (fun o' es' ep'=>aA3 fun g' d' U=>?_) (id hm')
 obtain⟨S2,E2⟩:=S1.other (b:=env.locals) F1.nb F1.no sb.extBut (fun o g=>⟨fun U q=>(by revert hm;refine eE3 fun o2 es2 ep2=>aA3 fun g2 d2 U=>?_;rw[g] at g2;replace g2:=ab g2;subst g2;exact q.dE d2),o',g',fun U=>⟨es',ep',d'⟩⟩) (tk:=s1.toks) (dr:=s1.drawn)
 apply G;refine h _ S2 (E1.trans E2) ⟨F1.no,F1.nb,⟨_,hm',fun i n' x e1 e2=>?_⟩,F1.cells⟩ fun b nb=>(sb.2 b nb).trans (sb1 b nb)
 refine bC fun G=>?_;refine eE1 (fun m1=>aA2 fun hm1 hr=>?_) (F1.ns)
 refine oO (fun z=>?_) (eE1 fun w=>aA2 fun hw rw_=>?_) (hr i n' x e1 e2)
 ·apply G;exact .inl z
 ·apply G;refine .inr ⟨w,?_,rw_.ext E2⟩
  have:n'≠n:=fun z=>nf (z▸List.mem_of_getElem? e1)
  rw[if_neg this]
  rw[← hw]
  exact congrFun (hm.eq_nsMap.trans hm1.eq_nsMap.symm) n'
theorem lR:entryFor table "proto.unchain" = some Builtin.«proto.unchain»:=entryFor_of_tree (by kernel_rfl)
theorem nV (g:s.heap.get? o=some oo)(d:oo.data = .fields vs)(h2:vs[2]? = some .none)(h:Q .none s) :
  wpAny (model prog w) A (runValue (.builtin "proto.unchain" ⟨[.ref e,.ref o,.ref o,.bool false],[]⟩)) Q E s:=by
 refine wpAny_runValue (codeAny_builtin lR ?_)
 unfold Builtin.«proto.unchain»
 dsimp only
 refine wpAny_bind (wpAny_field g d h2 ?_)
 rw[if_pos (by decide)]
 exact wpAny_pure (a:=Fin.done (.ret .none)) h
end
section
variable {W:Wd}{sc:Sc}{C:Tri Kl}{A:Around}{E:Value→Shared→Prop}{fs:List Env}{env:Env}{f:Fm}{ι:Io}{H:Hp}{s:Shared}{fI Cy:Addr}{a1 a2:Str}
inductive IP (W:Wd)(fs:List Env)(ι:Io)(s:Shared)(Cy:Addr)(y:Nat)(p0:Addr × Addr)(k:Nat→Hp→Bool)(v:Value)(s':Shared):Prop
 | mk (ι':Io)(H':Hp)(i:Nat) (l)(p:Addr × Addr)(t2:Addr)(gi:H'.t.get i=some (.inst y l))(tk:k i H'=true)(ev:v = .ref p.1)(ep:ι' i=some p)(S:St W fs ι' H' s')(E:Ext W noX ι s.heap ι' s'.heap)(gx:s'.heap.get? p.1=some (excAt Cy p.2 t2))(pne:p.1≠p0.1)(oe:Obj)(vs:Array Value)(g0:s'.heap.get? p0.1=some oe)(d0:oe.data = .fields vs)(h2:vs[2]? = some .none)
theorem qU (hh:A.handled=some (.ref p0.1))(Y:oQ W Cy fI a1 a2)(hy:1000≤y)
  (hc:∀ (s:Shared)(Q:Value→Shared→Prop)(E:Value→Shared→Prop),(∀ tk,Q .none { s with toks:=tk })→wpAny (model W.prog W.w) A cse Q E s)
  (h:wpAny (model W.prog W.w) A x (IP W fs ι s Cy y p0 k) E s)
  (hE:∀ v s',(∃ ι' H' i p,k i H'=true∧v = .ref p.1∧ι' i=some p∧St W fs ι' H' s'∧Ext W noX ι s.heap ι' s'.heap∧oU s'.heap p.1)→E v s'):wpAny (model W.prog W.w) A (raiseStmt env (some x) (some cse)) Q E s:=by
 unfold raiseStmt
 refine wpAny_bind (wpAny_mono h (fun v s₁ h₁=>?_) fun U U x=>x)
 refine bC fun G=>?_;obtain⟨ι',H',i,l,p,t2,gi,tk',rfl,ep,S',E',gx,pne,oe,vs,g0,d0,h2⟩:=h₁
 apply G;refine wpAny_bind (wpAny_holding (hc _ _ _ fun tk=>?_))
 refine wpAny_bind (wpAny_pure ?_)
 have gn:∀ c l',H'.t.get i=some (.inst c l')→1000≤c:=fun c l' e=>by rw[gi] at e;replace e:=Internal.Ob.inst.inj (ab e);obtain⟨rfl,rfl⟩:=e;exact hy
 have EX:=jV (M:=model W.prog W.w) S'.ground Y.exc
 refine bC fun G=>?_;obtain⟨⟨oc',od',cd',sl',hC,_⟩,made,base,self,vD,subB,noA,noN,call,typ,noT⟩:=EX
 obtain⟨hp,g,d,tk0,os⟩:=s₁
 have tyX:Looks (model W.prog W.w) hp (typeOf (.ref p.1)) (.ref Cy):=(Looks.ld gx).andThen .now
 have insB:Looks (model W.prog W.w) hp (isInstance (.ref p.1) (.type "BaseException")) true:=tyX.andThen subB
 have nt:Looks (model W.prog W.w) hp (isType (.ref p.1)) false:=(Looks.ld gx).andThen .now
 have ne:Looks (model W.prog W.w) hp (isExcClass (.ref p.1)) false:=by unfold isExcClass;exact nt.andThen .now
 have xv:Looks (model W.prog W.w) hp (excFromValue (.ref p.1) "exceptions must derive from BaseException") (.ref p.1):=by unfold excFromValue;exact ne.andThen (insB.andThen .now)
 apply G;refine wpAny_bind (wpAny_holding (xv.here ?_))
 dsimp only
 rw[if_pos (show(Value.none == Value.none)=true by decide)]
 refine wpAny_bind (wpAny_pure (wpAny_bind ?_))
 have up:∀ {h:Heap}{b:Bool}{c:Value}{k:Nat}{v:Value}{us:Array Value},h.get? p.1=some { cls:=.ref Cy,dict:=some p.2,data:=.fields #[.ref t2,.none,c,.none,.bool b,.none] }→#[Value.ref t2,.none,c,.none,.bool b,.none].setIfInBounds k v=us →
   (h.update p.1 (Obj.mapFields (·.setIfInBounds k v))).get? p.1=some { cls:=.ref Cy,dict:=some p.2,data:=.fields us }:=fun {h b c k v us} g e=>by
  have:=Heap.get?_update_self (Obj.mapFields (·.setIfInBounds k v)) g (Obj.isFreed_of_fields (Obj.data_mapFields rfl _))
  rw[this]
  show some ({ cls:=.ref Cy,dict:=some p.2,data:=.fields _ }:Obj)=_
  exact congrArg (fun us=>some ({ cls:=.ref Cy,dict:=some p.2,data:=.fields us }:Obj)) e
 have gx:hp.get? p.1=some { cls:=.ref Cy,dict:=some p.2,data:=.fields #[.ref t2,.none,.none,.none,.bool false,.none] }:=gx
 obtain⟨S1,E1⟩:=S'.An ep gx rfl 3 .none (.inl (by decide)) (tk:=tk) (dr:=d)
 have g1:=up (k:=3) (v:=.none) gx rfl
 refine wpAny_setField gx rfl (by simp) ?_
 obtain⟨S2,E2⟩:=S1.An ep g1 rfl 4 (.bool true) (.inl (by decide)) (tk:=tk) (dr:=d)
 have g2:=up (k:=4) (v:=.bool true) g1 rfl
 refine wpAny_bind (wpAny_setField g1 rfl (by simp) ?_)
 have k0:∀ {h:Heap}{k:Nat}{v:Value},h.get? p0.1=some oe→(h.update p.1 (Obj.mapFields (·.setIfInBounds k v))).get? p0.1=some oe:=fun g=>(Heap.get?_update_other _ _ pne).trans g
 have q2:=k0 (k:=4) (v:=.bool true) (k0 (k:=3) (v:=.none) g0)
 generalize hh2:(hp.update p.1 (Obj.mapFields (·.setIfInBounds 3 Value.none))).update p.1 (Obj.mapFields (·.setIfInBounds 4 (Value.bool true)))=h2' at *
 have nt2:Looks (model W.prog W.w) h2' (isType (.ref p.1)) false:=(Looks.ld g2).andThen .now
 have tyX2:Looks (model W.prog W.w) h2' (typeOf (.ref p.1)) (.ref Cy):=(Looks.ld g2).andThen .now
 have tyC:Looks (model W.prog W.w) h2' (typeOf (.ref Cy)) (.type "type"):=looks_typeIn S2.ground Y.Ck
 have ri:Looks (model W.prog W.w) h2' (raisedInstance (.ref p.1)) (.ref p.1):=by unfold raisedInstance;exact tyX2.andThen (tyC.andThen .now)
 refine wpAny_bind (nt2.here ?_)
 rw[if_neg Bool.false_ne_true]
 refine wpAny_bind (ri.here ?_)
 unfold setFlight
 refine wpAny_bind (wpAny_bind (wpAny_field g2 rfl (x:=.none) rfl ?_))
 rw[if_neg (by decide)]
 refine wpAny_pure ?_
 unfold raiseNew
 refine wpAny_bind (wpAny_handled ?_)
 rw[hh]
 have nv:(Value.ref p0.1 != Value.ref p.1)=true:=by
  have:Value.ref p0.1≠Value.ref p.1:=fun z=>pne (by injection z with z;exact z.symm)
  simpa using this
 simp only[nv,if_true]
 refine wpAny_bind (wpAny_holding (nV q2 d0 h2 ?_))
 obtain⟨S3,E3⟩:=S2.An ep g2 rfl 2 (.ref p0.1) (.inr gn) (tk:=tk) (dr:=d)
 have g3:=up (k:=2) (v:=.ref p0.1) g2 rfl
 refine wpAny_bind ?_
 unfold updateField
 refine wpAny_bind (wpAny_load g2 ?_)
 dsimp only
 rw[if_pos (by simp)]
 refine wpAny_update g2 ?_
 exact wpAny_throw (hE _ _ ⟨ι',H',i,p,tk',rfl,ep,S3,((E'.trans E1).trans E2).trans E3,_,_,g3,rfl,rfl⟩)
end
theorem lQ {K:Frag}{x C:Addr}{ox:Obj}{od:Option Obj}{name:Str}{expr:Bool}{v:Value}{prog:Program}{w:World}{A:Around}{E:Value→Shared→Prop}{s:Shared}{Q:Value→Shared→Prop}(X:K.In s.heap)(I:PySem.W.InstAt s.heap x ox C od)(hg:nG K C=true)
  (hf:findObj K C od name=some (.value v))(hh:handedIn v=true)(h:Q v { s with toks:=s.toks+1 }):wpAny (model prog w) A (getAttr (.ref x) name expr) Q E s:=by
 obtain⟨hga,hg⟩:=aa hg
 obtain⟨hgt,hb⟩:=aa hg
 have hk:builtinKind "BaseException.__getattribute__" = some .slot:=by decide +kernel
 have hsplit:splitId "BaseException.__getattribute__" = some ("BaseException","__getattribute__"):=by decide +kernel
 have FB:=PySem.F.attr_Exception
 have hx2:(Value.builtin "BaseException.__getattribute__" == Value.builtin "object.__getattribute__")=false:=by decide +kernel
 have sub:Looks (model prog w) s.heap (isInstance (.ref x) (.type "BaseException")) true:=I.type.andThen (looks_mroIn X (au hb))
 obtain⟨hp,g,d,t,os⟩:=s
 have L0:=I.type (M:=model prog w)
 have L1:=looks_findIn (M:=model prog w) X (au hga)
 have L2:=looks_findIn (M:=model prog w) X (au hgt)
 have L3:=looks_find (M:=model prog w) X I hf
 have bs:bindSpecial (.builtin "BaseException.__getattribute__") (.ref x)=pure (.builtin "BaseException.__getattribute__",[.ref x]):=FB.ga.bind _
 have key:wpAny (model prog w) A (boundAndCalled (.builtin "BaseException.__getattribute__") (.ref x) (.str name t)) (fun r s'=>wpAny (model prog w) A (handedOut r) Q E s') (fun U U=>False) ⟨hp,g,d,t+1,os⟩:=by
  unfold boundAndCalled
  rw[bs]
  refine wpAny_bind (wpAny_pure (wpAny_call (codeAny_call_builtin FB.ga.plain F.entry_bexc_ga (@check_slot (model prog w) _ _ ⟨hp,g,d,t+1,os⟩ "BaseException.__getattribute__" "BaseException" "__getattribute__" (.ref x) [.str name t] [] _ hk hsplit sub (F.args_bexc_ga _ _) ?_))))
  refine wpAny_bind (wpAny_pure (wpAny_bind (wpAny_pure (wpAny_bind (L0.at (wpAny_bind (L3.at (wpAny_pure ?_))))))))
  show wpAny _ _ (handedOut v) _ _ _
  rw[handedOut_of hh]
  exact wpAny_pure h
 unfold getAttr getAttrBy
 refine wpAny_bind (wpAny_mkText (wpAny_holding (wpAny_bind (L0.at (wpAny_bind (L1.at ?_))))))
 dsimp only
 rw[hx2,Bool.and_false]
 show wpAny _ _ (getAttrByItsOwn (.ref x) (.str name t) (.ref C) (.builtin "BaseException.__getattribute__") true expr) _ _ _
 unfold getAttrByItsOwn callGetattribute
 have hx3:(expr&&onTheHeap (Value.builtin "BaseException.__getattribute__"))=false:=by cases expr<;>rfl
 rw[hx3]
 refine wpAny_bind (L2.at ?_)
 refine wpAny_bind (wpAny_attempt (wpAny_holding ?_))
 exact wpAny_mono key (fun r s' z=>z) fun U U z=>z.elim
theorem oI (self:Value):∀ l,refuseLoop self "__setattr__" l=refuseLoop self "__setattr__" (l.dropWhile isR):=fun l=>by
 induction l with
 | nil=>rfl
 | cons v l ih =>
  cases q:isR v with
  | false=>rw[List.dropWhile_cons,q];rfl
  | true =>
   rw[List.dropWhile_cons,q]
   unfold isR at q
   split at q
   ·rw[refuseLoop_ref];exact ih
   ·exact ft q
theorem rZ {K:Frag}{C:Addr}(h:sJ K C=true):Stores K C:=by
 refine eE1 (fun cd=>aA2 fun hc ho=>?_) (PySem.W.any_some h)
 have ho:=au ho
 refine⟨cd,hc,List.elem_eq_true_of_mem ((List.dropWhile_suffix isR).subset (ho▸?_)),fun self=>?_⟩
 ·exact .tail _ (.tail _ (.head _))
 ·rw[oI,ho];exact PySem.F.store_Exception.passes self
theorem rR (t:fA c xs H k=true):fA c xs H (fun i h=>(match h.t.get i with | some (.inst c' _)=>Nat.beq c' c | _=>false)&&k i h)=true:=by
 have key:∀ l,(match (H.add (.inst c l)).t.get H.n with | some (.inst c' _)=>Nat.beq c' c | _=>false)=true:=fun l=>by
  have:(H.add (.inst c l)).t.get H.n=some (.inst c l):=by
   show(H.t.set _ H.n).get H.n=_
   rw[Tri.get_set,if_pos rfl]
  rw[this]
  exact Nat.beq_refl c
 cases xs with
 | nil=>exact ft t
 | cons m r =>
  cases r with
  | nil =>
   have t:bM H (.inst c [(aK,m),(il,.int 0)]) k=true:=t
   rw[aT] at t
   show bM H (.inst c [(aK,m),(il,.int 0)]) (fun i h=>(match h.t.get i with | some (.inst c' _)=>Nat.beq c' c | _=>false)&&k i h)=true
   rw[aT]
   simp only[t,Bool.and_true]
   exact key _
  | cons sp q =>
   cases q with
   | nil =>
    have t:bM H (.inst c [(aK,m),(il,sp)]) k=true:=t
    rw[aT] at t
    show bM H (.inst c [(aK,m),(il,sp)]) (fun i h=>(match h.t.get i with | some (.inst c' _)=>Nat.beq c' c | _=>false)&&k i h)=true
    rw[aT]
    simp only[t,Bool.and_true]
    exact key _
   | cons _ _=>exact ft t
theorem fC (eo:bR W sc env fs)(X:W.K.In s.heap)(hn:sc.names.lookup n=some .globalImplicit)(hg:nsIn W.K mainGlobals n=some (some v))
  (hd:(n == ("__debug__" : Str))=false)(h:Q v s):wpAny M A (eval (.Name n p) env) Q E s:=by
 refine wpAny_Name ?_ hd
 rw[loadName_read eo.kind (by unfold Env.kindOf;rw[eo.names];exact hn)]
 unfold loadGlobal
 rw[eo.globals]
 exact wpAny_bind ((looks_nsIn X hg).here (wpAny_pure h))
section
variable {W:Wd}{sc:Sc}{C:Tri Kl}{fI Cy:Addr}{a1 a2:Str}
set_option tactic.hygienic true in
theorem Du {x:Nat}{Cx:Addr}{n:Str}(X:ux W sc C x Cx n){y:Nat}(XO:XOk W fI a1 a2)(hCy:W.cls (y+1000)=some Cy)(Yy:oQ W Cy fI a1 a2)(keep:keepIn W.K (.ref Cy)=true)
  {ny nf ns am:Str}{q:Nat}(kny:sc.names.lookup ny=some .globalImplicit)(gny:nsIn W.K mainGlobals ny=some (some (.ref Cy)))(dny:(ny == ("__debug__" : Str))=false)
  (hnf:nf∉sc.slots)(knf:sc.names.lookup nf=some .local)(dnf:(nf == ("__debug__" : Str))=false)(hq:sc.slots[q]? = some ns)(kns:sc.names.lookup ns=some .local)(dns:(ns == ("__debug__" : Str))=false)(iam:ag am aK)
  (cat:∀ c Ca ini e ms sup,W.cls c=some Ca→C.get c=some (.mk ini e ms sup)→(Nat.beq x c||nin x sup)=true→nG W.K Ca=true∧hasDictIn W.K Ca=true∧findIn W.K (.ref Ca) am=some none)
  {tp p1 p2 p3 p4 p5 p6 p7 pos:Pos}{kk:Nat}{nx:CH}{rest:List ExceptHandler}(hr:SHs W sc C nx rest) :
  SHs W sc C (G9 x y q nx) (.ExceptHandler (some (.Name n tp)) (some nf) [.Raise (some (.Call (.Name ny p1) [.Attribute (.Name nf p2) am p3,.Name ns p4] [] p5)) (some (.Constant .none kk p6)) p7] pos :: rest):=fun r d A fs env f ι H s ι0 s0 i p T c at_ ini exc ms sup kn kc kr ke h ep go hC E0 Tr l0 n0 nb no t=>by
 refine wpAny_handleBy_cons (oq X h.eo h.st ep go hC ?_) (by intro q;injection q)
 refine oO (aA2 fun qx t=>?_) (aA2 fun qx t=>?_) (gJ (b:=nx r i c sup f H kn kc kr ke) t)
 rotate_left
 ·rw[qx];exact hr r d A fs env f ι H s ι0 s0 i p T c at_ ini exc ms sup kn kc kr ke h ep go hC E0 Tr l0 n0 nb no t
 rw[qx]
 have t:(@Bool.rec (fun U=>Bool) (aL H i fun o=>(eN false (fun U l=>cI l aK false fun m=>nq f q fun s=>fA (Nat.add y 1000) [m,s] H fun j h=>ke j f h) o)) false (Nat.ble 1000 c))=true:=t
 have clt:c < 1000:=by
  cases q2:Nat.ble 1000 c with
  | true=>rw[q2] at t;(first | exact nf t | exact ns t | exact ft t)
  | false =>
   refine Nat.lt_of_not_le fun z=>?_
   rw[Nat.ble_eq_true_of_le z] at q2;exact tf q2
 have t:(aL H i fun o=>(eN false (fun U l=>cI l aK false fun m=>nq f q fun s=>fA (Nat.add y 1000) [m,s] H fun j h=>ke j f h) o))=true:=by
  cases q2:Nat.ble 1000 c with
  | true=>rw[q2] at t;(first | exact nf t | exact ns t | exact ft t)
  | false=>rw[q2] at t;exact t
 refine bC fun G=>?_;refine eE1 (fun o=>aA2 fun go' t=>?_) (af t)
 rw[go] at go';replace go':=ab go';subst go'
 have t:cI at_ aK false (fun m=>nq f q fun s=>fA (y+1000) [m,s] H fun j h=>ke j f h)=true:=t
 refine oO (aA2 fun U t=>?_) (eE1 fun m=>aA2 fun em t=>?_) (aV t)
 ·exact ft t
 refine eE1 (fun sp=>aA3 fun hsp nsp t=>?_) (dZ t)
 have t:=rR t
 have kf:env.kindOf nf=some .local:=by unfold Env.kindOf;rw[h.eo.names];exact knf
 have ks:env.kindOf ns=some .local:=by unfold Env.kindOf;rw[h.eo.names];exact kns
 have E':Value→Shared→Prop:=PXE W sc fs env ι0 s0 ke
 apply G;refine codeAny_handlers_suite_as (fB (h₀:=s0.heap) h.st Tr nb no n0 none fun s2 S2 E2 Tr2=>?_)
 have F2:=h.fr.way E2 l0
 refine i5 h.eo.kind kf hnf S2 F2 fun s3 m3 S3 E3 F3 hm3 hmf sb3=>?_
 have E03:=(E0.way E2).trans E3
 refine wpAny_execs_cons ?_
 rw[arm_exec_Raise]
 rw[show ∀ e,evalOpt (some e) env=some (eval e env) from fun U=>rfl,show ∀ e,evalOpt (some e) env=some (eval e env) from fun U=>rfl]
 refine wpAny_bind (wpAny_standAt (qU (y:=y+1000) (fs:=fs) (ι:=ι) (p0:=p) rfl Yy (Nat.le_add_left _ _) (k:=fun j h=>ke j f h) (fun s Q E hq=>wpAny_bind (wpAny_Constant_none (wpAny_bind (wpAny_standAt (wpAny_pure (hq _)))))) ?_ ?_))
 ·rw[show eval (.Call (.Name ny p1) [.Attribute (.Name nf p2) am p3,.Name ns p4] [] p5) env=(do callWith p5 (← eval (.Name ny p1) env) [] (backTo p5 (starEach [.Attribute (.Name nf p2) am p3,.Name ns p4] env)) (backToKw p5 (keywordEach [] env))) from rfl]
  refine wpAny_bind (wpAny_bind (fC h.eo S3.ground kny gny dny ?_))
  refine bC fun G=>?_;obtain⟨ln,ne,Ca,o,kvs,hCa,g,hc,hd,hn,gd,rk⟩:=S3.ro ep go
  refine eE2 (fun es mm=>aA2 fun I gl=>?_) (i6 g hc hd hn.1 gd)
  refine aA3 (fun pg hh hfi=>?_) (cat c Ca ini exc ms sup hCa hC qx)
  refine oO (aA2 fun z U=>?_) (eE2 fun x' w=>aA3 fun z1 z2 rw_=>?_) (rk.at iam)
  ·rw[z] at em;exact zns em
  rw[z1] at em;replace em:=ab em;subst em
  refine eE1 (fun m4=>aA2 fun hm4 hr4=>?_) (F3.ns)
  refine oO (fun z=>?_) (eE1 fun v4=>aA2 fun hv4 rv4=>?_) (hr4 q ns sp hq hsp)
  ·exact absurd z nsp
  apply G;refine callWith_of (P:=W.K.In) (by rfl) (keeps_K keep) (Calls.evalArgs_plain (Calls.spliced_cons (Attribute_any_ (wpAny_Name (wpAny_loadName_local h.eo.kind kf hm3 hmf ?_) dnf) (by rfl))))
  refine lQ S3.ground I pg (i8 hh (.inl hfi) (by rw[lookIn_dict,gl,z2])) rw_.handed ?_
  refine Calls.spliced_cons (wpAny_Name (wpAny_loadName_local h.eo.kind ks hm4 hv4 (Calls.spliced_nil ⟨S3.ground,?_⟩)) dns)
  refine wpAny_mono (wz XO hCy Yy (S3.toks (s3.toks+1)) (by have:=h.ar.depth;show A.depth+1 < 1000;omega) (.cons rw_ (.cons rv4 .nil)) t) (fun v s5 P=>?_) fun U U z=>z
  refine bC fun G=>?_;obtain⟨⟨ι5,H5,j,p5',t5,rfl,ep5,S5,E5,gx5,ap5,t5'⟩,K5⟩:=P
  apply G;refine wpAny_bind (wpAny_standAt (wpAny_pure ?_))
  simp only[Bool.and_eq_true] at t5'
  obtain⟨q1,q2⟩:=t5'
  obtain⟨l5,hl5⟩:∃ l,H5.t.get j=some (.inst (y+1000) l):=by
   cases z:H5.t.get j with
   | none=>rw[z] at q1;(first | exact nf q1 | exact ft q1 | cases q1)
   | some ob =>
    rw[z] at q1
    cases ob<;>first | exact nf q1 | cases q1 | skip
    rename_i c' l
    rw[aD q1]
    exact⟨l,rfl⟩
  refine bC fun G=>?_;refine eE2 (fun oe vs=>aA3 fun ge de U=>?_) (Tr2.at_)
  have pl:p.1≠env.locals:=fun z=>F2.no (.inr ⟨i,p,ep,.inl z.symm⟩)
  have g3:=(sb3 _ pl).trans ge
  rw[g] at g3;replace g3:=ab g3;subst g3
  apply G;exact⟨ι5,H5,j,l5,p5',t5,hl5,q2,rfl,ep5,S5,E5,gx5,ap5 i p ep,_,vs,K5 _ _ g,de,hn.2 clt vs de⟩
 ·rintro v s5 ⟨ι5,H5,j,p5',q2,rfl,ep5,S5,E5,un5⟩
  have E05:Ext W (atL env) ι0 s0.heap ι5 s5.heap:=E03.trans E5.atl
  have F5:=F3.ext E5 id
  refine note (h₀:=s0.heap) (A:=A.mark (some (.ref p.1))) h.eo h.ar.frames S5 E05 ep5 (.inl un5) fun s6 T6 L6 hL6 S6 E6 Tr6 n6 nb6 no6=>?_
  have F6:=F5.way E6 l0
  refine xV h.eo.kind kf hnf S6 F6 fun s7 S7 E7 F7 sb7=>?_
  have pl:p5'.1≠env.locals:=fun z=>F5.no (.inr ⟨j,p5',ep5,.inl z.symm⟩)
  have Tl:T6≠env.locals:=fun z=>l0 (by rw[← z];exact n6)
  have Tr7:Traced s7.heap p5'.1 T6 (rawInt L6):=by
   obtain⟨⟨oe,vs,g,d,h1⟩,⟨oT,ts,gT,cT,dT,h3⟩,ne⟩:=Tr6
   exact⟨⟨oe,vs,(sb7 _ pl).trans g,d,h1⟩,⟨oT,ts,(sb7 _ Tl).trans gT,cT,dT,h3⟩,ne⟩
  unfold PySem.passOn
  refine bC fun G=>?_;obtain⟨⟨oe,vs,g,dd,h1⟩,_⟩:=id Tr7
  apply G;refine wpAny_bind (wpAny_field g dd h1 ?_)
  rw[if_neg (by simp)]
  refine wpAny_bind (fB (h₀:=s0.heap) S7 Tr7 nb6 no6 n6 env.frame fun s8 S8 E8 Tr8=>?_)
  have E08:Ext W (atL env) ι0 s0.heap ι5 s8.heap:=((E05.way E6).trans E7).way E8
  have F8:=F7.way E8 l0
  refine wpAny_throw (oH (A:=A.mark (some (.ref p.1))) h.eo h.ar.frames S8 E08 ep5 (.inr ⟨T6,_,Tr8,.inr ⟨L6,hL6,by rw[hL6];rfl⟩,n6,nb6,no6⟩) fun s9 S9 E9 t9=>?_)
  exact⟨ι5,H5,f,j,p5',rfl,ep5,S9,E08.way E9,F8.way E9 l0,t9,q2⟩
end
section
variable {W:Wd}{fs:List Env}{ι:Io}{H:Hp}{s:Shared}
theorem St.DO (S:St W fs ι H s)(sb:Heap.SameBut W.src s.heap h')(hsr:Src W h'):St W fs ι H ⟨h',s.gens,dr,tk,s.os⟩∧Ext W noX ι s.heap ι h':=by
 have fb:=S.fresh W.src (.inl rfl)
 have hs:=sb.extBut
 have tk':TK W ι s.heap ι h':=fun x y g c d no=>⟨hs x y (fun z=>no (.inl z)) g,no⟩
 refine bC fun G=>?_;obtain⟨⟨o0,g0,_⟩⟩:=id hsr
 apply G;refine⟨⟨S.bo,S.bp,S.mods,S.gO fb.1 hs,oA S.old fb.1 hs,S.nB fb.1 hs,bX S.frames fun x m y g=>⟨y,hs x y (fun z=>fb.2 (z▸m)) g,rfl⟩,fun L m=>?_,fun i ob' e'=>?_,S.dom,S.apart,S.fresh,S.aF,hsr,S.gens,S.os,fun P m=>(by
  refine eE1 (fun ps=>aA4 fun z2q1 g t c=>?_) (S.tabs P m);obtain⟨ob',b'⟩:=z2q1
  exact⟨ps,⟨ob',b'⟩,hs _ _ (fun z=>(by rw[z,fb.1] at b';exact zns b')) g,t,fun pos cv e=>(c pos cv e).mono tk'⟩)⟩,⟨Sub.refl _,tk',fun x y g U no U=>⟨y.slots,hs x y (fun z=>no (.inl z)) g,fun U=>rfl⟩,fun x y g=>?_,fun x h=>.inl h⟩⟩
 ·refine eE3 (fun o es n=>aA2 fun g d=>?_) (S.frd L m)
  exact⟨o,es,n,hs L o (fun z=>fb.2 (z▸m)) g,d⟩
 ·refine bC fun G=>?_;refine eE1 (fun q=>aA2 fun a r'=>?_) (S.live i ob' e')
  obtain⟨f1,f2⟩:=S.aF _ _ a
  apply G;exact⟨q,a,r'.mono (Sub.refl _) tk' (fun x g=>hs _ _ f1 g) (fun x g=>hs _ _ f2 g)⟩
 ·by_cases z:x=W.src
  ·exact⟨o0,z▸g0⟩
  ·exact⟨y,hs x y z g⟩
end
structure TkC (W:Wd)(env:Env)(n1 n2 n3:Str)(h:Heap)(x y n:Int)(z:Option Int):Prop where
 hk:env.scope.kind = .function
 ns:∃ m t2,h.Ns env.locals m∧m n1=some (.ref W.src)∧m n2=some (.int n t2)∧∀ i,z=some i→∃ t3,m n3=some (.int i t3)
 src:∃ t u nn,IsL h W.src #[.int x t,.int y u] nn
structure TkN (sc:Sc)(n1 n2 n3:Str):Prop where
 k1:sc.names.lookup n1=some .local
 k2:sc.names.lookup n2=some .local
 k3:sc.names.lookup n3=some .local
 d1:(n1 == ("__debug__" : Str))=false
 d2:(n2 == ("__debug__" : Str))=false
 d3:(n3 == ("__debug__" : Str))=false
def cG (W:Wd)(sc:Sc)(n1 n2 n3:Str)(I:Int→Int→Int→Option Int→Prop)(e:Expr)(g:Int→Int→Int→Option Int→Int):Prop:=∀ (A:Around)(env:Env)(s:Shared)(x y n:Int)(z:Option Int)(Q:Value→Shared→Prop)(E:Value→Shared→Prop),
 env.scope.names=sc.names→TkC W env n1 n2 n3 s.heap x y n z→I x y n z→(∀ t tk,Q (.int (g x y n z) t) { s with toks:=tk })→wpAny (model W.prog W.w) A (eval e env) Q E s
section
variable {W:Wd}{sc:Sc}{n1 n2 n3:Str}{I:Int→Int→Int→Option Int→Prop}
theorem ef {k pos}:cG W sc n1 n2 n3 I (.Constant (.int i) k pos) (fun U U U U=>i):=fun A env s x y n z Q E hn T hI hq=>wpAny_Constant_int (hq _ _)
theorem rM (N:TkN sc n1 n2 n3) {pos}:cG W sc n1 n2 n3 I (.Name n2 pos) (fun U U n U=>n):=fun A env s x y n z Q E hn T hI hq=>by
 refine eE2 (fun m t2=>aA4 fun hm U h2 U=>?_) (T.ns)
 exact wpAny_Name (wpAny_loadName_local T.hk (by unfold Env.kindOf;rw[hn];exact N.k2) hm h2 (hq _ _)) N.d2
theorem yX (N:TkN sc n1 n2 n3) {kk p0 p1 pos}(hk:k=0∨k=1):cG W sc n1 n2 n3 I (.Subscript (.Name n1 p0) (.Constant (.int k) kk p1) pos) (fun x y U U=>if k=0 then x else y):=fun A env s x y n z Q E hn T hI hq=>by
 refine eE2 (fun m t2=>aA4 fun hm h1 U U=>?_) (T.ns)
 refine eE3 (fun t u nn gl=>?_) (T.src)
 refine Subscript_ (wpAny_Name (wpAny_loadName_local T.hk (by unfold Env.kindOf;rw[hn];exact N.k1) hm h1 (wpAny_Constant_int ?_)) N.d1)
 obtain⟨ops,hs⟩:=aO (.Constant (.int k) kk p1) (.ref W.src) (.int k s.toks)
 rcases hk with rfl | rfl
 ·refine tail_any (aE gl).typeIs F.slot_list_getitem.lookup (wpAny_getItem_list (k:=0) (x:=.int x t) (aE gl) (by decide) (by decide) rfl ?_) hs
  exact hq t (s.toks+1)
 ·refine tail_any (aE gl).typeIs F.slot_list_getitem.lookup (wpAny_getItem_list (k:=1) (x:=.int y u) (aE gl) (by decide) (by decide) rfl ?_) hs
  exact hq u (s.toks+1)
theorem TkC.toks {env:Env}{s:Shared}{x y n:Int}{z:Option Int}(T:TkC W env n1 n2 n3 s.heap x y n z)(tk:Nat):TkC W env n1 n2 n3 ({ s with toks:=tk }:Shared).heap x y n z:=T
theorem nr {pos}(h1:cG W sc n1 n2 n3 I e1 g1)(h2:cG W sc n1 n2 n3 I e2 g2)
  (ho:∀ (A:Around)(s:Shared)(x y n:Int)(z:Option Int)(t u:Tok)(Q:Value→Shared→Prop)(E:Value→Shared→Prop),I x y n z→(∀ t tk,Q (.int (g x y n z) t) { s with toks:=tk })→wpAny (model W.prog W.w) A (binaryOp op (.int (g1 x y n z) t) (.int (g2 x y n z) u)) Q E s) :
  cG W sc n1 n2 n3 I (.BinOp e1 op e2 pos) g:=fun A env s x y n z Q E hn T hI hq=>by
 refine wpAny_BinOp (h1 A env s x y n z _ _ hn T hI fun t tk=>?_)
 refine h2 A env _ x y n z _ _ hn (T.toks tk) hI fun u tk2=>?_
 exact ho A _ x y n z t u _ _ hI fun t tk=>hq t tk
theorem wX {pos}(h1:cG W sc n1 n2 n3 I e1 g1)(h2:cG W sc n1 n2 n3 I e2 g2)(hm:∀ x y n z,I x y n z→IntMulOk (g1 x y n z) (g2 x y n z)) :
  cG W sc n1 n2 n3 I (.BinOp e1 .Mult e2 pos) (fun x y n z=>g1 x y n z * g2 x y n z):=nr h1 h2 fun A s x y n z t u Q E hI hq=>P.mul_int (hq _ _) (hm x y n z hI)
theorem D0 {pos}(h1:cG W sc n1 n2 n3 I e1 g1)(h2:cG W sc n1 n2 n3 I e2 g2) :
  cG W sc n1 n2 n3 I (.BinOp e1 .Add e2 pos) (fun x y n z=>g1 x y n z+g2 x y n z):=nr h1 h2 fun A s x y n z t u Q E hI hq=>P.add_int (hq _ _)
theorem n7 {pos}(h1:cG W sc n1 n2 n3 I e1 g1)(h2:cG W sc n1 n2 n3 I e2 g2)(hm:∀ x y n z,I x y n z→g2 x y n z≠0) :
  cG W sc n1 n2 n3 I (.BinOp e1 .Mod e2 pos) (fun x y n z=>(g1 x y n z).fmod (g2 x y n z)):=nr h1 h2 fun A s x y n z t u Q E hI hq=>AutoIntOps.mod_1 (by simpa using hm x y n z hI) (hq _ _)
theorem noPylong (h0:0≤b)(h:b < 2 ^ 31):¬ (Builtin.divisionGoesByPylong a b)=true:=by
 unfold Builtin.divisionGoesByPylong
 dsimp only
 have:b.natAbs.log2≤31:=by
  by_cases z:b.natAbs=0
  ·rw[z];decide
  ·have:b.natAbs < 2 ^ 32:=by omega
   exact Nat.le_of_lt_succ ((Nat.log2_lt z).mpr this)
 have e:¬ (300 < (if(b == 0)=true then 0 else b.natAbs.log2 / 30+1)):=by
  split
  ·omega
  ·omega
 simp only[gt_iff_lt,Bool.and_eq_true,decide_eq_true_eq,not_and]
 intro z
 exact absurd z e
theorem tA {pos}(h1:cG W sc n1 n2 n3 I e1 g1)(h2:cG W sc n1 n2 n3 I e2 g2)(hm:∀ x y n z,I x y n z→0 < g2 x y n z∧g2 x y n z < 2 ^ 31) :
  cG W sc n1 n2 n3 I (.BinOp e1 .FloorDiv e2 pos) (fun x y n z=>(g1 x y n z).fdiv (g2 x y n z)):=nr h1 h2 fun A s x y n z t u Q E hI hq=>AutoIntOps.floordiv_1 (by have:=(hm x y n z hI).1;simp;omega) (noPylong (Int.le_of_lt (hm x y n z hI).1) (hm x y n z hI).2) (hq _ _)
end
def TkI (x y n:Int)(_:Option Int):Prop:=0≤x∧0≤y∧y < 2147483647∧x.natAbs.log2≤2 ^ 21∧0 < n∧n≤1000
inductive Jq (W:Wd)(sc:Sc)(n1 n2 n3:Str)(bd:List Stmt):Prop where
 | mk (e0:Expr)(ec:Expr)(e1:Expr)(e2:Expr)(e3:Expr)(e4:Expr)(p0:Pos)(p1:Pos)(p2:Pos)(p3:Pos)(p4:Pos)(p5:Pos)(p6:Pos)(p7:Pos)(p8:Pos)(p9:Pos)(q1:Pos)(q2:Pos)(q3:Pos)(q4:Pos)(q5:Pos)(k1:Nat)(k2:Nat)
  (c0:bd=[.If (.Compare e0 [.Gt] [ec] p0) [.Assign [.Name n3 p1] e1 p2,.Assign [.Subscript (.Name n1 p3) (.Constant (.int 0) k1 p4) p5] e2 p6,.Return (some (.Name n3 p7)) p8] [] p9,
   .Assign [.Subscript (.Name n1 q1) (.Constant (.int 1) k2 q2) q3] e3 q4,.Return (some e4) q5])
  (c1:cG W sc n1 n2 n3 TkI e0 (fun x _ _ _=>x))
  (c2:cG W sc n1 n2 n3 TkI ec (fun _ _ _ _=>0))
  (c3:behindInMarks .Gt ec=false)
  (c4:cG W sc n1 n2 n3 TkI e1 (fun x _ n _=>x.fmod n))
  (c5:cG W sc n1 n2 n3 TkI e2 (fun x _ n _=>x.fdiv n))
  (c6:(∃ g3,cG W sc n1 n2 n3 TkI e3 g3∧∀ x y n z,TkI x y n z→0≤g3 x y n z∧g3 x y n z < 2147483647))
  (c7:(∃ g4,cG W sc n1 n2 n3 TkI e4 g4∧∀ x y n z,TkI x y n z→0≤g4 x y n z∧g4 x y n z < n))
  (c8:(∀ env line,swapsWithSole [.Name n3 p1] e1 line env=pure false))
  (c9:(∀ env,swappedStores [.Name n3 p1] e1 env=pure none))
  (c10:(∀ env line,swapsWithSole [.Subscript (.Name n1 p3) (.Constant (.int 0) k1 p4) p5] e2 line env=pure false))
  (c11:(∀ env,swappedStores [.Subscript (.Name n1 p3) (.Constant (.int 0) k1 p4) p5] e2 env=pure none))
  (c12:(∀ env line,swapsWithSole [.Subscript (.Name n1 q1) (.Constant (.int 1) k2 q2) q3] e3 line env=pure false))
  (c13:(∀ env,swappedStores [.Subscript (.Name n1 q1) (.Constant (.int 1) k2 q2) q3] e3 env=pure none))
structure TkB (W:Wd)(sc:Sc)(n1 n2 n3:Str)(bd:List Stmt):Prop where
 N:TkN sc n1 n2 n3
 slots:sc.slots=[n1,n2]
 n13:n3≠n1
 n23:n3≠n2
 is:Jq W sc n1 n2 n3 bd
section
variable {W:Wd}{sc:Sc}{n1 n2 n3:Str}{bd:List Stmt}{A:Around}{fs:List Env}{env:Env}{ι:Io}{H:Hp}{s:Shared}{n:Nat}{E:Value→Shared→Prop}
theorem Src.nums (hOn:W.on=none)(x:Src W h):∃ x y:Int,(∃ t u nn,IsL h W.src #[.int x t,.int y u] nn)∧0≤x∧0≤y∧y < 2147483647∧x.natAbs.log2≤2 ^ 21:=by
 refine bC fun G=>?_;obtain⟨⟨o,g,q⟩⟩:=x
 refine eE5 (fun x y t u nn=>aA2 fun z2q5 r=>?_) (q.2.1 hOn);obtain rfl:=z2q5
 apply G;exact⟨x,y,⟨t,u,nn,g⟩,r⟩
theorem og (hsl:sc.slots=[n1,n2])(eo:bR W sc env fs){cl:List Nat}{h:Heap}(F:aS W sc env ι h (.mk [.src,.int (.ofNat n)] cl)){x y:Int}(src:∃ t u nn,IsL h W.src #[.int x t,.int y u] nn){z:Option Int}{m3:Str→Option Value}(hz:∀ i,z=some i→h.Ns env.locals m3∧∃ t3,m3 n3=some (.int i t3)):TkC W env n1 n2 n3 h x y n z:=by
 refine bC fun G=>?_;refine eE1 (fun m=>aA2 fun hm hr=>?_) (F.ns)
 have a1:=hr 0 n1 .src (by rw[hsl];rfl) rfl
 have a2:=hr 1 n2 (.int (.ofNat n)) (by rw[hsl];rfl) rfl
 revert a1;refine oO (fun z1=>?_) (eE1 fun v1=>aA2 fun hv1 r1=>?_)
 ·injection z1
 revert a2;refine oO (fun z2=>?_) (eE1 fun v2=>aA2 fun hv2 r2=>?_)
 ·injection z2
 obtain⟨rfl,_⟩:=r1.inv
 obtain⟨t2,rfl⟩:=r2.inv;apply G;next =>
  refine⟨eo.kind,⟨m,t2,hm,hv1,hv2,fun i hi=>?_⟩,src⟩
  refine aA2 (fun hm3=>eE1 fun t3 h3=>?_) (hz i hi)
  exact⟨t3,by rw[hm.eq_nsMap.trans hm3.eq_nsMap.symm];exact h3⟩
theorem mC (hOn:W.on=none)(N:TkN sc n1 n2 n3)(hsl:sc.slots=[n1,n2])(eo:bR W sc env fs){cl:List Nat}(S:St W fs ι H s)(F:aS W sc env ι s.heap (.mk [.src,.int (.ofNat n)] cl)){x y:Int}(src:∃ t u nn,IsL s.heap W.src #[.int x t,.int y u] nn){k:Nat}(hk:k=0∨k=1){v:Int}{tv:Tok}
  (ok:∃ x' y':Int,(if k=0 then x'=v∧y'=y else x'=x∧y'=v)∧0≤x'∧0≤y'∧y' < 2147483647∧x'.natAbs.log2≤2 ^ 21){p1 p2 p3:Pos}{kk:Nat}{Q:Unit→Shared→Prop}
  (h:∀ s' x' y',(if k=0 then x'=v∧y'=y else x'=x∧y'=v)→(∃ t u nn,IsL s'.heap W.src #[.int x' t,.int y' u] nn)→St W fs ι H s'→Ext W noX ι s.heap ι s'.heap→aS W sc env ι s'.heap (.mk [.src,.int (.ofNat n)] cl)→(∀ b,b≠W.src→s'.heap.get? b=s.heap.get? b)→Q () s') :
  wpAny (model W.prog W.w) A (assign (.Subscript (.Name n1 p1) (.Constant (.int k) kk p2) p3) env (.int v tv)) Q E s:=by
 have T:=og (z:=none) (m3:=fun U=>none) hsl eo F src (fun i hi=>by exact zns hi) (n3:=n3)
 refine eE2 (fun m t2=>aA4 fun hm h1 U U=>?_) (T.ns)
 refine dN (wpAny_Name (wpAny_loadName_local T.hk (by unfold Env.kindOf;rw[eo.names];exact N.k1) hm h1 (wpAny_Constant_int ?_)) N.d1)
 revert src;refine eE3 fun t u nn gl=>?_
 obtain⟨⟨n',g'⟩,sb⟩:=ba gl (fun xs=>xs.setIfInBounds k (.int v tv))
 revert ok;refine eE2 fun x' y'=>aA2 fun hxy r=>?_
 have hl:∃ t u nn,IsL (s.heap.update W.src (Obj.mapSeq fun xs=>xs.setIfInBounds k (.int v tv))) W.src #[.int x' t,.int y' u] nn:=by
  rcases hk with rfl | rfl
  ·obtain⟨rfl,rfl⟩:=hxy
   exact⟨tv,u,n',g'⟩
  ·obtain⟨rfl,rfl⟩:=hxy
   exact⟨t,tv,n',g'⟩
 refine gk (s:={ s with toks:=s.toks+1 }) gl (by omega) (by rcases hk with rfl | rfl<;>decide) (by rcases hk with rfl | rfl<;>simp) ?_
 have src':Src W (s.heap.update W.src (Obj.mapSeq fun xs=>xs.setIfInBounds k (.int v tv))):=by
  revert hl;refine eE3 fun t u nn g=>?_
  exact⟨⟨_,g,(fun z=>by injection z with z;exact absurd z (by decide)),(fun U=>⟨x',y',t,u,nn,rfl,r⟩),fun z e=>nomatch (hOn.symm.trans e)⟩⟩
 obtain⟨S2,E2⟩:=S.DO sb src' (tk:=s.toks+1) (dr:=s.drawn)
 exact h _ x' y' hxy hl S2 E2 (F.ext E2 id) fun b nb=>sb.2 b nb
theorem zu {a:Int}{n:Nat}(h:0 < n):∃ i:Nat,a.fmod n=(i:Int)∧i < n:=by
 have h1:=Int.fmod_nonneg_of_pos a (show(0:Int) < n by omega)
 have h2:=Int.fmod_lt_of_pos a (show(0:Int) < n by omega)
 exact⟨(a.fmod n).toNat,by omega,by omega⟩
theorem vf (hOn:W.on=none)(B:TkB W sc n1 n2 n3 bd)(eo:bR W sc env fs)(S:St W fs ι H s){cl:List Nat}(F:aS W sc env ι s.heap (.mk [.src,.int (.ofNat n)] cl))(n0:0 < n)(n1000:n≤1000) :
  wpAny (model W.prog W.w) A (execs bd env) (fun fl s'=>∃ (i:Nat)(t:Tok),fl = .ret (.int (.ofNat i) t)∧i < n∧St W fs ι H s'∧Ext W (atL env) ι s.heap ι s'.heap) E s:=by
 refine bC fun G=>?_;obtain⟨e0,ec,e1,e2,e3,e4,p0,p1,p2,p3,p4,p5,p6,p7,p8,p9,q1,q2,q3,q4,q5,k1,k2,rfl,h0,hc,hcm,h1,h2,⟨g3,h3,b3⟩,⟨g4,h4,b4⟩,w1,w2,w3,w4,w5,w6⟩:=B.is
 refine eE2 (fun x y=>aA5 fun src hx hy hy2 hlog=>?_) (S.src.nums hOn)
 have I:TkI x y n none:=⟨hx,hy,hy2,hlog,by omega,by omega⟩
 have T:=og (z:=none) (m3:=fun U=>none) B.slots eo F src (fun i hi=>by exact zns hi) (n3:=n3)
 apply G;refine wpAny_execs_cons (wpAny_If (wpAny_isTrue_Compare1 (h0 _ _ _ x y n none _ _ eo.names T I fun t tk=>hc _ _ _ x y n none _ _ eo.names (T.toks tk) I fun t' tk'=>P.gt_int (wpAny_truthy_bool ?_)) hcm))
 by_cases pos:x > 0
 ·rw[decide_eq_true pos]
  refine wpAny_execs_cons (wpAny_Assign_stores (h1 _ _ _ x y n none _ _ eo.names (T.toks _) I fun t1 tk1=>?_) (w1 env _) (w2 env))
  rw[show(assignEach [Expr.Name n3 p1] env).map (·.2)=[assign (.Name n3 p1) env] from rfl]
  have nf:n3∉sc.slots:=by rw[B.slots];simp[B.n13,B.n23]
  refine wpAny_assign_Name (i5 (s:={ s with toks:=tk1 }) eo.kind (by unfold Env.kindOf;rw[eo.names];exact B.N.k3) nf (S.toks _) F fun s2 m3 S2 E2 F2 hm3 hmn sb2=>?_)
  have nl:W.src≠env.locals:=fun z=>F.no (.inl z.symm)
  have src2:∃ t u nn,IsL s2.heap W.src #[.int x t,.int y u] nn:=by
   revert src;refine eE3 fun t u nn g=>?_
   exact⟨t,u,nn,(sb2 _ nl).trans g⟩
  have I2:TkI x y n (some (x.fmod n)):=I
  have T2:=og (z:=some (x.fmod n)) B.slots eo F2 src2 (fun i hi=>by replace hi:=ab hi;subst hi;exact⟨hm3,_,hmn⟩)
  refine wpAny_execs_cons (wpAny_Assign_stores (h2 _ _ _ x y n _ _ _ eo.names T2 I2 fun t3 tk3=>?_) (w3 env _) (w4 env))
  rw[show(assignEach [Expr.Subscript (.Name n1 p3) (.Constant (.int 0) k1 p4) p5] env).map (·.2)=[assign (.Subscript (.Name n1 p3) (.Constant (.int 0) k1 p4) p5) env] from rfl]
  have fd:0≤x.fdiv n∧(x.fdiv n).natAbs.log2≤2 ^ 21:=by
   rw[Int.fdiv_eq_ediv_of_nonneg x (by omega)]
   have a:=Int.ediv_nonneg hx (show(0:Int)≤n by omega)
   refine⟨a,Nat.le_trans ?_ hlog⟩
   have le:(x / (n:Int)).natAbs≤x.natAbs:=by
    have:=Int.ediv_le_self (n:Int) hx
    omega
   by_cases z:(x / (n:Int)).natAbs=0
   ·rw[z,show Nat.log2 0=0 from by decide +kernel];exact Nat.zero_le _
   ·exact Nat.le_log2 (by omega)|>.mpr (Nat.le_trans (Nat.log2_self_le z) le)
  refine mC (s:={ s2 with toks:=tk3 }) (k:=0) hOn B.N B.slots eo (S2.toks _) F2 src2 (.inl rfl) ⟨x.fdiv n,y,⟨rfl,rfl⟩,fd.1,hy,hy2,fd.2⟩ fun s4 x' y' hxy src4 S4 E4 F4 sb4=>?_
  have hm4:s4.heap.Ns env.locals m3:=by
   revert hm3;refine eE3 fun oL es ep=>aA3 fun g dd r=>?_
   exact⟨oL,es,ep,(sb4 _ (Ne.symm nl)).trans g,dd,r⟩
  refine wpAny_execs_cons (wpAny_Return_some (wpAny_Name (wpAny_loadName_local eo.kind (by unfold Env.kindOf;rw[eo.names];exact B.N.k3) hm4 hmn ?_) B.N.d3))
  refine eE1 (fun i=>aA2 fun hi lt=>?_) (zu (a:=x) n0)
  exact⟨i,t1,by show Flow.ret (Value.int (x.fmod n) t1)=_;rw[hi];rfl,lt,S4,E2.trans E4.atl⟩
 ·rw[decide_eq_false pos]
  refine wpAny_execs_nil ?_
  refine wpAny_execs_cons (wpAny_Assign_stores (h3 _ _ _ x y n none _ _ eo.names (T.toks _) I fun t1 tk1=>?_) (w5 env _) (w6 env))
  rw[show(assignEach [Expr.Subscript (.Name n1 q1) (.Constant (.int 1) k2 q2) q3] env).map (·.2)=[assign (.Subscript (.Name n1 q1) (.Constant (.int 1) k2 q2) q3) env] from rfl]
  obtain⟨b31,b32⟩:=b3 x y n none I
  refine mC (s:={ s with toks:=tk1 }) (k:=1) hOn B.N B.slots eo (S.toks _) F src (.inr rfl) ⟨x,_,⟨rfl,rfl⟩,hx,b31,b32,hlog⟩ fun s4 x' y' hxy src4 S4 E4 F4 sb4=>?_
  refine bC fun G=>?_;obtain⟨hx',hy'⟩:x'=x∧y'=g3 x y n none:=hxy
  rw[hx',hy'] at src4
  have T4:=og (z:=none) (m3:=fun U=>none) B.slots eo F4 src4 (fun i hi=>by exact zns hi) (n3:=n3)
  have I4:TkI x (g3 x y n none) n none:=⟨hx,b31,b32,hlog,by omega,by omega⟩
  apply G;refine wpAny_execs_cons (wpAny_Return_some (h4 _ _ _ x _ n none _ _ eo.names T4 I4 fun t5 tk5=>?_))
  obtain⟨b41,b42⟩:=b4 _ _ _ _ I4
  refine⟨(g4 x (g3 x y n none) n none).toNat,t5,?_,by omega,S4.toks _,E4.atl⟩
  rw[show Int.ofNat (g4 x (g3 x y n none) n none).toNat=g4 x (g3 x y n none) n none from Int.toNat_of_nonneg b41]
end
inductive GG (W:Wd)(ta:Addr):Prop where
 | mk (oc:Value)(od:Option Addr)(fd:FuncData)(osl:Array (Option Value))(sc:Sc)(n1:Str)(n2:Str)(n3:Str)(bd:List Stmt)
  (c0:W.K.lookup ta=some ⟨oc,od,.func fd,osl⟩)
  (c1:codeIn W.K fd.code fd.qualname=true)
  (c2:eO W sc fd [] [] [n1,n2] 2 0 [cV 0,cV 1] [] iK)
  (c3:fd.body = .stmts bd)
  (c4:TkB W sc n1 n2 n3 bd)
structure dD (W:Wd)(ta:Addr):Prop where
 is:GG W ta
 keep:keepIn W.K (.ref ta)=true
def isAt (f0:Fm)(H:Hp):KF:=fun f h=>@decide (f=f0∧h=H) (Classical.propDecidable _)
theorem fP (t:isAt f0 H f h=true):f=f0∧h=H:=by
 unfold isAt at t
 exact @au _ (Classical.propDecidable _) t
theorem fQ (f0:Fm)(H:Hp):isAt f0 H f0 H=true:=by
 unfold isAt
 exact @decide_eq_true _ (Classical.propDecidable _) ⟨rfl,rfl⟩
section
variable {W:Wd}{A:Around}{fs:List Env}{ι:Io}{H:Hp}{s:Shared}{ta:Addr}{n:Nat}
theorem mF (hOn:W.on=none)(T:dD W ta)(hroom:A.depth < recursionLimit)(S:St W fs ι H s)(n0:0 < n)(n1000:n≤1000)
  (h:∀ (i:Nat) t' s',i < n→St W fs ι H s'→Ext W noX ι s.heap ι s'.heap→R (.ok (.ret (.int (.ofNat i) t'))) s'):codeAny (model W.prog W.w) A (.call (.ref ta) ⟨[.ref W.src,.int (.ofNat n) t],[]⟩) R s:=by
 refine bC fun G=>?_;obtain⟨oc,od,fd,osl,sc,n1,n2,n3,bd,hK,hcd,en,hb,B⟩:=T.is
 apply G;refine fK (r:=fun U U U U U=>false) (xs:=[.src,.int (.ofNat n)]) (K:=isAt (.mk [.src,.int (.ofNat n)] []) H) en hroom S (S.ground _ _ hK) rfl (codeRec_of S.ground hcd) (js:=[]) (.inl rfl) (fun i n z=>by exact zns z) (.cons (.src hOn) (.cons (.int _ _) .nil)) (by simp) (by simp) (fQ _ _) hb fun env s2 P=>?_
 refine bC fun G=>?_;obtain⟨f',ι',H',S2,E2,F2,eo,l0,tk⟩:=P
 obtain⟨rfl,rfl⟩:=fP tk
 apply G;refine codeAny_func (wpAny_mono (vf hOn B eo S2 F2 n0 n1000 (E:=fun U U=>False)) (fun fl s3 P=>?_) fun U U z=>z.elim)
 refine bC fun G=>?_;revert P;refine eE2 fun i t'=>aA4 fun z4q2 lt S3 E3=>?_;obtain rfl:=z4q2
 have E:Ext W noX ι s.heap ι' s3.heap:=((E2.weaken fun U z=>z.elim).trans E3).drop fun b z=>.inr (by rw[show b=env.locals from z];exact l0)
 obtain⟨S4,E4⟩:=S.shrink S3.exit E fun k o e=>e
 apply G;exact h i t' s3 lt S4 E4
end
theorem mB (t:ym v b=true):v = .src∧b=true:=by
 cases v<;>first | exact⟨rfl,t⟩| exact ft t
theorem zg (t:inB n b=true):0 < n∧n≤1000∧b=true:=by
 obtain⟨h1,t⟩:=ai (c:=Nat.ble 1 n) t
 obtain⟨h2,t⟩:=ai (c:=Nat.ble n 1000) t
 exact⟨bS h1,bS h2,t⟩
theorem gw:∀ {n i:Nat},je n k=true→i < n→k i=true
 | 0,i,t,h=>by omega
 | n+1,i,t,h=>by
  obtain⟨h1,t⟩:=ai (c:=k n) (x:=je n k) t
  by_cases z:i=n
  ·subst z;exact h1
  ·exact gw t (by omega)
def Callee (W:Wd)(sc:Sc)(v:Value)(e1:Expr):Prop:=∀ (A:Around)(fs:List Env)(env:Env)(s:Shared)(Q:Value→Shared→Prop)(E:Value→Shared→Prop),bR W sc env fs→W.K.In s.heap→Q v s→wpAny (model W.prog W.w) A (eval e1 env) Q E s
section
variable {W:Wd}{sc:Sc}{ta:Addr}
theorem iu (T:dD W ta)(hcal:Callee W sc (.ref ta) e1)
  (ha:SX W sc a e2)(hx:SX W sc x e3)(he:∀ env,eval (.Call e1 [e2,e3] [] pos) env=(do callWith pos (← eval e1 env) [] (backTo pos (starEach [e2,e3] env)) (backToKw pos (keywordEach [] env))):=by intros;rfl)
  (hst:∀ env,starEach [e2,e3] env=[(false,eval e2 env),(false,eval e3 env)]:=by intros;rfl){r:Rt}{d:Nat}{A:Around}{fs:List Env}{env:Env}{f:Fm}{ι:Io}{H:Hp}{s:Shared}{g:Nat→(Vl→Hp→Bool)→Hp→Bool}{k:KV}{e:KE}{Q:Value→Shared→Prop}
  (h:Here W sc r d A fs env f ι H s)(t:Av a x g r f H k e=true)(hQ:∀ (n i:Nat) t' s' ι' H',St W fs ι' H' s'→Ext W noX ι s.heap ι' s'.heap→i < n→g n k H'=true→Q (.int (.ofNat i) t') s') :
  wpAny (model W.prog W.w) A (eval (.Call e1 [e2,e3] [] pos) env) Q (PE W fs noX ι s e) s:=by
 rw[he]
 refine wpAny_bind (hcal A fs env s _ _ h.eo h.st.ground ?_)
 have t:a r f H (fun s h=>ym s (x r f h (fun v h=>nat? v fun n=>inB n (g n k h)) e)) e=true:=t
 refine callWith_of (P:=W.K.In) (by rw[hst];rfl) (keeps_K T.keep) ?_
 rw[hst]
 refine Calls.evalArgs_plain (Calls.spliced_cons (wpAny_mono (ha r d A fs env f ι H s _ e h t) (fun v s1 P=>?_) fun U U z=>z))
 refine bC fun G=>?_;obtain⟨ι1,H1,y,S1,E1,rv,t⟩:=P
 obtain⟨rfl,t⟩:=mB t
 obtain⟨rfl,hOn⟩:=rv.inv;next =>
 apply G;refine Calls.spliced_cons (wpAny_mono (hx r d A fs env f ι1 H1 s1 _ e (h.next S1 E1) t) (fun w s2 P=>?_) fun U U z=>z.from E1)
 refine bC fun G=>?_;obtain⟨ι2,H2,z,S2,E2,rw_,t⟩:=P
 refine eE1 (fun n=>aA2 fun z13q1 t=>?_) (bG (k:=fun n=>inB n (g n k H2)) t);obtain rfl:=z13q1
 refine aA3 (fun n0 n1000 t=>?_) (zg t)
 obtain⟨_,rfl⟩:=rw_.inv
 apply G;refine Calls.spliced_nil ⟨S2.ground,wpAny_call (mF hOn T (by have:=h.ar.depth;show A.depth < 1000;omega) S2 n0 n1000 fun i t' s3 lt S3 E3=>?_)⟩
 exact hQ n i t' s3 ι2 H2 S3 ((E1.trans E2).trans E3) lt t
theorem callee (hn:sc.names.lookup n=some .globalImplicit)(hg:nsIn W.K mainGlobals n=some (some v))(hd:(n == ("__debug__" : Str))=false):Callee W sc v (.Name n p):=fun A fs env s Q E eo X h=>fC eo X hn hg hd h
theorem DB (T:dD W ta)(hc:Callee W sc (.ref ta) e1)(ha:SX W sc a e2)(hx:SX W sc x e3)(he:∀ env,eval (.Call e1 [e2,e3] [] pos) env=(do callWith pos (← eval e1 env) [] (backTo pos (starEach [e2,e3] env)) (backToKw pos (keywordEach [] env))):=by intros;rfl)
  (hst:∀ env,starEach [e2,e3] env=[(false,eval e2 env),(false,eval e3 env)]:=by intros;rfl):SX W sc (HE a x) (.Call e1 [e2,e3] [] pos):=fun r d A fs env f ι H s k e h t =>
 iu T hc ha hx he hst h t fun n i t' s' ι' H' S' E' lt t=>⟨ι',H',_,S',E',.int _ _,gw (k:=fun i=>k (.int (.ofNat i)) H') t lt⟩
theorem wu (T:dD W ta)(hc:Callee W sc (.ref ta) e1)(ha:SX W sc a e2)(hx:SX W sc x e3)(he:∀ env,eval (.Call e1 [e2,e3] [] pos) env=(do callWith pos (← eval e1 env) [] (backTo pos (starEach [e2,e3] env)) (backToKw pos (keywordEach [] env))):=by intros;rfl)
  (hst:∀ env,starEach [e2,e3] env=[(false,eval e2 env),(false,eval e3 env)]:=by intros;rfl):SX W sc (wJ m a x) (.Call e1 [e2,e3] [] pos):=fun r d A fs env f ι H s k e h t =>
 iu T hc ha hx he hst h t fun n i t' s' ι' H' S' E' lt t=>by
  obtain⟨h1,h2⟩:=ai (c:=k (.ge m) H') (x:=je m fun i=>k (.int (.ofNat i)) H') t
  by_cases z:i < m
  ·exact⟨ι',H',_,S',E',.int _ _,gw (k:=fun i=>k (.int (.ofNat i)) H') h2 z⟩
  ·exact⟨ι',H',_,S',E',.ge (n:=m) _ (by simp only[Int.ofNat_eq_natCast];omega),h1⟩
def ju (op:CmpOp):Prop:=∀ (prog:Program)(w:World)(A:Around)(s:Shared)(i j:Int)(t u:Tok)(Q:Value→Shared→Prop)(E:Value→Shared→Prop),(∀ b,Q (.bool b) s)→wpAny (model prog w) A (compareOp op (.int i t) (.int j u)) Q E s
theorem any_eq:ju .Eq:=fun prog w A s i j t u Q E h=>PyProof.Rows.eq_int (h _)
theorem wb:ju .Gt:=fun prog w A s i j t u Q E h=>PyProof.Rows.gt_int (h _)
section
variable {a x:CX}{e1 e2 e3:Expr}{pos pos':Pos}{op:CmpOp}{j:Int}{kk:Nat}{pc:Pos}
theorem ug (T:dD W ta)(hop:ju op)(hc:Callee W sc (.ref ta) e1)(ha:SX W sc a e2)(hx:SX W sc x e3)(hm:behindInMarks op (.Constant (.int j) kk pc)=false)(he:∀ env,eval (.Call e1 [e2,e3] [] pos) env=(do callWith pos (← eval e1 env) [] (backTo pos (starEach [e2,e3] env)) (backToKw pos (keywordEach [] env))):=by intros;rfl)
  (hst:∀ env,starEach [e2,e3] env=[(false,eval e2 env),(false,eval e3 env)]:=by intros;rfl):SX W sc (xZ a x) (.Compare (.Call e1 [e2,e3] [] pos) [op] [.Constant (.int j) kk pc] pos'):=fun r d A fs env f ι H s k e h t=>by
 refine wpAny_Compare1 (iu T hc ha hx he hst h t fun n i t' s' ι' H' S' E' lt t=>?_) hm
 obtain⟨h1,h2⟩:=ai (c:=k (.bool true) H') (x:=k (.bool false) H') t
 refine wpAny_Constant_int (hop _ _ _ _ _ _ _ _ _ _ fun b=>?_)
 exact⟨ι',H',.bool b,S'.toks _,E',.bool b,by cases b<;>assumption⟩
theorem sP (T:dD W ta)(hop:ju op)(hc:Callee W sc (.ref ta) e1)(ha:SX W sc a e2)(hx:SX W sc x e3)(hm:behindInMarks op (.Constant (.int j) kk pc)=false)(he:∀ env,eval (.Call e1 [e2,e3] [] pos) env=(do callWith pos (← eval e1 env) [] (backTo pos (starEach [e2,e3] env)) (backToKw pos (keywordEach [] env))):=by intros;rfl)
  (hst:∀ env,starEach [e2,e3] env=[(false,eval e2 env),(false,eval e3 env)]:=by intros;rfl):ST W sc (xZ a x) (.Compare (.Call e1 [e2,e3] [] pos) [op] [.Constant (.int j) kk pc] pos'):=fun r d A fs env f ι H s p q e h t=>by
 refine wpAny_isTrue_Compare1 (iu T hc ha hx he hst h t fun n i t' s' ι' H' S' E' lt t=>?_) hm
 obtain⟨h1,h2⟩:=ai (c:=p H') (x:=q H') t
 refine wpAny_Constant_int (hop _ _ _ _ _ _ _ _ _ _ fun b=>wpAny_truthy_bool ?_)
 exact⟨ι',H',S'.toks _,E',by cases b<;>assumption⟩
end
end
inductive Jx (W:Wd)(oa ta:Addr):Prop where
 | mk (oc:Value)(od:Option Addr)(fd:FuncData)(osl:Array (Option Value))(sc:Sc)(n1:Str)(n2:Str)(bd:List Stmt)(et:Expr)(el:Expr)(p1:Pos)(p3:Pos)(p5:Pos)(p6:Pos)(p7:Pos)(p8:Pos)(p9:Pos)
  (c0:W.K.lookup oa=some ⟨oc,od,.func fd,osl⟩)
  (c1:codeIn W.K fd.code fd.qualname=true)
  (c2:eO W sc fd [] [] [n1,n2] 2 0 [cV 0,cV 1] [] iK)
  (c3:fd.body = .stmts bd)
  (c4:sc.slots=[n1,n2])
  (c5:sc.names.lookup n1=some .local)
  (c6:sc.names.lookup n2=some .local)
  (c7:(n1 == ("__debug__" : Str))=false)
  (c8:(n2 == ("__debug__" : Str))=false)
  (c9:bd=[.Return (some (.Subscript (.Name n2 p1) (.Call et [.Name n1 p3,.Call el [.Name n2 p5] [] p6] [] p7) p8)) p9])
  (c10:Callee W sc (.ref ta) et)
  (c11:Callee W sc (.builtin "len") el)
  (c12:(∀ env,eval (.Call et [.Name n1 p3,.Call el [.Name n2 p5] [] p6] [] p7) env=(do callWith p7 (← eval et env) [] (backTo p7 (starEach [.Name n1 p3,.Call el [.Name n2 p5] [] p6] env)) (backToKw p7 (keywordEach [] env)))))
  (c13:(∀ env,eval (.Call el [.Name n2 p5] [] p6) env=(do callWith p6 (← eval el env) [] (backTo p6 (starEach [.Name n2 p5] env)) (backToKw p6 (keywordEach [] env)))))
structure pA (W:Wd)(oa ta:Addr):Prop where
 is:Jx W oa ta
 keep:keepIn W.K (.ref oa)=true
section
variable {W:Wd}{A:Around}{fs:List Env}{ι:Io}{H:Hp}{s:Shared}{oa ta:Addr}
theorem nH (eo:bR W sc env fs)(X:W.K.In s.heap)(hn:sc.names.lookup n=some .globalImplicit)(hg:nsIn W.K mainGlobals n=some none)(hb:nsIn W.K builtinsNs n=some (some v))
  (hd:(n == ("__debug__" : Str))=false)(h:Q v s):wpAny M A (eval (.Name n p) env) Q E s:=by
 refine wpAny_Name ?_ hd
 rw[loadName_read eo.kind (by unfold Env.kindOf;rw[eo.names];exact hn)]
 unfold loadGlobal
 rw[eo.globals,eo.builtins]
 exact wpAny_bind ((looks_nsIn X hg).here (wpAny_bind ((looks_nsIn X hb).here (wpAny_pure h))))
set_option tactic.hygienic true in
theorem yJ (hOn:W.on=none)(O:pA W oa ta)(T:dD W ta)(hroom:A.depth+1 < recursionLimit)(S:St W fs ι H s)(ep:ι i=some p)(go:H.t.get i=some (.list xs))(ne:0 < xs.length)
  (h:∀ (v:Value)(x:Vl) s',x∈xs→RV W ι s'.heap v x→St W fs ι H s'→Ext W noX ι s.heap ι s'.heap→R (.ok (.ret v)) s'):codeAny (model W.prog W.w) A (.call (.ref oa) ⟨[.ref W.src,.ref p.1],[]⟩) R s:=by
 refine bC fun G=>?_;obtain⟨oc,od,fd,osl,sc,n1,n2,bd,et,el,p1,p3,p5,p6,p7,p8,p9,hK,hcd,en,hb,hsl,k1,k2,d1,d2,rfl,hct,hcl,he1,he2⟩:=O.is
 apply G;refine fK (r:=fun _ _ _ _ _=>false) (xs:=[.src,.ref i]) (K:=isAt (.mk [.src,.ref i] []) H) en (by show A.depth < 1000;have:A.depth+1 < 1000:=hroom;exact fS this (by simp +arith only)) S (S.ground _ _ hK) rfl (codeRec_of S.ground hcd) (js:=[]) (.inl rfl) (fun i n z=>by exact zns z) (.cons (.src hOn) (.cons (.ref ep) .nil)) (by simp) (by simp) (fQ _ _) hb fun env s2 P=>?_
 refine bC fun G=>?_;obtain⟨f',ι',H',S2,E2,F2,eo,l0,tk⟩:=P
 obtain⟨rfl,rfl⟩:=fP tk
 refine eE1 (fun m=>aA2 fun hm hr=>?_) (F2.ns)
 have a1:=hr 0 n1 .src (by rw[hsl];rfl) rfl
 have a2:=hr 1 n2 (.ref i) (by rw[hsl];rfl) rfl
 revert a1;refine oO (fun z1=>?_) (eE1 fun v1=>aA2 fun hv1 r1=>?_)
 ·injection z1
 revert a2;refine oO (fun z2=>?_) (eE1 fun v2=>aA2 fun hv2 r2=>?_)
 ·injection z2
 obtain⟨rfl,_⟩:=r1.inv
 refine eE2 (fun _ _=>aA2 fun z5q2 e2=>?_) (r2.inv);obtain rfl:=z5q2;apply G;next =>
  rename_i l dd
  have ep':=E2.sub _ _ ep
  rw[e2] at ep';replace ep':=ab ep';subst ep'
  have kn1:env.kindOf n1=some .local:=by unfold Env.kindOf;rw[eo.names];exact k1
  have kn2:env.kindOf n2=some .local:=by unfold Env.kindOf;rw[eo.names];exact k2
  obtain⟨_,ln,vs,nn,g,rv⟩:=S2.ro e2 go
  have len:=rv.length
  simp only[Array.length_toList] at len
  refine codeAny_func (wpAny_execs_cons (wpAny_Return_some (Subscript_ (wpAny_Name (wpAny_loadName_local eo.kind kn2 hm hv2 ?_) d2))))
  rw[he1]
  refine wpAny_bind (hct _ _ env s2 _ _ eo S2.ground ?_)
  refine callWith_of (P:=W.K.In) (by rfl) (keeps_K T.keep) (Calls.evalArgs_plain (Calls.spliced_cons (wpAny_Name (wpAny_loadName_local eo.kind kn1 hm hv1 ?_) d1)))
  refine Calls.spliced_cons ?_
  rw[he2]
  refine wpAny_bind (hcl _ _ env s2 _ _ eo S2.ground ?_)
  refine Calls.callWith_builtin (by rfl) (Calls.evalArgs_plain (Calls.spliced_cons (wpAny_Name (wpAny_loadName_local eo.kind kn2 hm hv2 (Calls.spliced_nil ?_)) d2)))
  refine PySem.Calls.call_len_list (aE g) (by omega) ?_
  refine Calls.spliced_nil ⟨S2.ground,wpAny_call ?_⟩
  have:=mF (A:=A.deeper env) (s:={ s2 with toks:=s2.toks+1+1 }) (n:=vs.size) hOn T hroom ((S2.toks _).toks _) (by omega) (by omega) (t:=s2.toks+1) (R:=fun r s'=>match r with
   | .ok (.ret v)=>wpAny (model W.prog W.w) (A.deeper env) (subscriptTail (.Name n2 p1) (.Call et [.Name n1 p3,.Call el [.Name n2 p5] [] p6] [] p7) (.ref l) v) (fun v s'=>R (.ok (.ret v)) s') (fun _ _=>False) s'
   | _=>False) ?_
  ·refine codeAny_mono this fun q s3 z=>?_
   rcases q with e | (v | _ | _ | _)<;>first | exact z.elim | skip
   exact wpAny_mono z (fun v s4 z=>z) fun _ _ z=>z.elim
  ·intro j t' s3 lt S3 E3
   obtain⟨ops,hs⟩:=aO (.Call et [.Name n1 p3,.Call el [.Name n2 p5] [] p6] [] p7) (.ref l) (.int (.ofNat j) t')
   obtain⟨_,ln3,vs3,nn3,g3,rv3⟩:=S3.ro e2 go
   have len3:=rv3.length
   simp only[Array.length_toList] at len3
   have ltx:j < xs.length:=by omega
   refine eE1 (fun v=>aA2 fun gv rx=>?_) (rv3.get (List.getElem?_eq_getElem ltx))
   rw[Array.getElem?_toList] at gv
   refine tail_any (aE g3).typeIs F.slot_list_getitem.lookup (wpAny_getItem_list (k:=(j:Int)) (x:=v) (aE g3) (by omega) (by omega) (by simpa using gv) ?_) hs
   have E:Ext W noX ι s.heap ι' s3.heap:=E2.trans E3
   obtain⟨S4,E4⟩:=S.shrink S3.exit E fun k o e=>e
   obtain⟨_,ln0,vs0,nn0,g0,rv0⟩:=S.ro ep go
   refine eE1 (fun v0=>aA2 fun _ rx0=>?_) (rv0.get (List.getElem?_eq_getElem ltx))
   exact h v xs[j] s3 (List.getElem_mem ltx) (rx0.back (ι3:=ι) ⟨E.sub,Sub.refl _,fun b z=>z.mono E.sub⟩ rx) S4 E4
end
theorem mK:∀ {l:List Vl}{x:Vl},wo l k=true→x∈l→k x=true
 | a :: r,x,t,m=>by
  obtain⟨h1,t⟩:=ai (c:=k a) (x:=wo r k) t
  rcases List.mem_cons.mp m with rfl | m
  ·exact h1
  ·exact mK t m
section
variable {W:Wd}{sc:Sc}{oa ta:Addr}
theorem D3 (O:pA W oa ta)(T:dD W ta)(hc:Callee W sc (.ref oa) e1)(ha:SX W sc a e2)(hl:SL W sc l es)
  (he:∀ env,eval (.Call e1 [e2,.List es pl] [] pos) env=(do callWith pos (← eval e1 env) [] (backTo pos (starEach [e2,.List es pl] env)) (backToKw pos (keywordEach [] env))):=by intros;rfl)
  (hst:∀ env,starEach [e2,.List es pl] env=[(false,eval e2 env),(false,eval (.List es pl) env)]:=by intros;rfl):SX W sc (Gp a l) (.Call e1 [e2,.List es pl] [] pos):=fun r d A fs env f ι H s k e h t=>by
 rw[he]
 refine wpAny_bind (hc A fs env s _ _ h.eo h.st.ground ?_)
 have t:a r f H (fun s h=>ym s (l r f h (fun vs h=>@List.rec Vl (fun U=>Bool) false (fun U U U=>small vs (wo vs fun v=>k v h)) vs) e)) e=true:=t
 refine callWith_of (P:=W.K.In) (by rw[hst];rfl) (keeps_K O.keep) ?_
 rw[hst]
 refine Calls.evalArgs_plain (Calls.spliced_cons (wpAny_mono (ha r d A fs env f ι H s _ e h t) (fun v s1 P=>?_) fun U U z=>z))
 refine bC fun G=>?_;obtain⟨ι1,H1,y,S1,E1,rv,t⟩:=P
 obtain⟨rfl,t⟩:=mB t
 obtain⟨rfl,hOn⟩:=rv.inv;next =>
 apply G;refine Calls.spliced_cons (wpAny_List (wpAny_mono (hl pl r d A fs env f ι1 H1 s1 _ e (h.next S1 E1) t) (fun vs s2 P=>?_) fun U U z=>z.from E1))
 refine bC fun G=>?_;obtain⟨ι2,H2,xs,S2,E2,rvs,t⟩:=P
 apply G;obtain⟨ne,t⟩:0 < xs.length∧small xs (wo xs fun v=>k v H2)=true:=by
  cases xs with
  | nil=>exact ft t
  | cons _ _=>exact⟨by simp,t⟩
 obtain⟨ln,t⟩:=aA t
 refine⟨by rw[rvs.length];unfold sizeLine;omega,?_⟩
 have K:=aj s2.heap { cls:=.type "list",data:=.seq vs.toArray }
 have no:=aw (h:=s2.heap) (Nat.le_refl _)
 obtain⟨S3,E3⟩:=S2.new K (p:=(s2.heap.objs.size,s2.heap.objs.size)) (o:=.list xs) (tk:=s2.toks) (dr:=s2.drawn) no no fun tk=>⟨rfl,ln,_,_,Heap.get?_push_size _ rfl,by simpa using rvs.mono (aN S2.unused) tk⟩
 have g3:(H2.add (.list xs)).t.get H2.n=some (.list xs):=by
  show(H2.t.set _ H2.n).get H2.n=_
  rw[Tri.get_set,if_pos rfl]
 refine Calls.spliced_nil ⟨S3.ground,wpAny_call (yJ hOn O T (by have:=h.ar.depth;show A.depth+1 < 1000;omega) S3 (p:=(s2.heap.objs.size,s2.heap.objs.size)) (ao _ _ _) g3 ne fun v x s4 m rx S4 E4=>?_)⟩
 have E24:=E3.trans E4
 obtain⟨S5,E5⟩:=S2.shrink S4 E24 fun k o e=>by
  show(H2.t.set _ H2.n).get k=_
  rw[Tri.get_set,if_neg (fun z=>by rw[z,S2.Ad] at e;exact zns e)];exact e
 refine bC fun G=>?_;obtain⟨j,lt,rfl⟩:=List.getElem_of_mem m
 refine eE1 (fun v0=>aA2 fun U rx0=>?_) (rvs.get (List.getElem?_eq_getElem lt))
 apply G;exact⟨ι2,H2,xs[j],S5,(E1.trans E2).trans E5,rx0.back (ι3:=ι2) ⟨E24.sub,Sub.refl _,fun b z=>z.mono E24.sub⟩ rx,mK (k:=fun v=>k v H2) t (List.getElem_mem lt)⟩
end
theorem bV (h:isK k o=true):o=some k:=au h
theorem bN (h:eP n=some c):ag n c:=by
 unfold eP at h
 cases q:(n.cps.toList.all (fun x=>Nat.ble 1 x&&Nat.ble x 127)&&Nat.ble n.cps.toList.length 1000) with
 | false=>rw[q] at h;(first | exact nf h | exact ns h | cases h)
 | true =>
  rw[q] at h
  simp only[Bool.and_eq_true,List.all_eq_true] at q
  obtain⟨q1,q2⟩:=q
  exact⟨ab h,fun x hx=>by
   have:=q1 x hx
   simp only[Bool.and_eq_true,Nat.ble_eq] at this
   omega,bS q2⟩
theorem D8:ag (Str.ofString "__debug__") DBG:=⟨rfl,by decide +kernel,by decide +kernel⟩
theorem FN:ag (Str.ofString "__classdict__") CLD:=⟨rfl,by decide +kernel,by decide +kernel⟩
theorem bq:∀ {i:Nat},idxOf n l=some i→l[i]? = some n:=by
 induction l with
 | nil=>exact fun h=>zns h
 | cons a r ih =>
  intro i h
  refine oO (aA2 fun q h=>?_) (aA2 fun U h=>?_) (eG h)
  ·replace h:=ab h;subst h;exact congrArg some (au q)
  refine eE1 (fun j=>aA2 fun hj e=>?_) (aC h);subst e
  exact ih hj
def gN (K:Frag)(n:Str)(v:Value):Prop:=nsIn K mainGlobals n=some (some v)∨(nsIn K mainGlobals n=some none∧nsIn K builtinsNs n=some (some v))
theorem cU (eo:bR W sc env fs)(X:W.K.In s.heap)(hn:sc.names.lookup n=some .globalImplicit)(hg:gN W.K n v)
  (hd:(n == ("__debug__" : Str))=false)(h:Q v s):wpAny M A (eval (.Name n p) env) Q E s:=by
 revert hg;refine oO (fun hg=>?_) (aA2 fun hg hb=>?_)
 ·exact fC eo X hn hg hd h
 ·exact nH eo X hn hg hb hd h
structure bT (X:Cx)(W:Wd):Prop where
 wok:WOk W X.C
 name:∀ n c x,ag n c→lkN c X.names=some x→∃ v,gN W.K n v∧∀ fs ι H s,St W fs ι H s→RV W ι s.heap v x
 attr:∀ n c,ag n c→X.attrs.any (Nat.beq c)=true→fi W X.C n c
 kU:∃ ta oa,dD W ta∧pA W oa ta∧(∀ n,ag n X.take→nsIn W.K mainGlobals n=some (some (.ref ta)))∧∀ n,ag n X.one→nsIn W.K mainGlobals n=some (some (.ref oa))
 enum:∀ n,ag n X.enum→nsIn W.K mainGlobals n=some none∧nsIn W.K builtinsNs n=some (some (.type "enumerate"))
 zip:∀ n,ag n X.zip→nsIn W.K mainGlobals n=some none∧nsIn W.K builtinsNs n=some (some (.type "zip"))
 range:∀ n,ag n X.range→nsIn W.K mainGlobals n=some none∧nsIn W.K builtinsNs n=some (some (.type "range"))
 dict:∀ n,ag n X.dict→nsIn W.K mainGlobals n=some none∧nsIn W.K builtinsNs n=some (some (.type "dict"))
 list:∀ n,ag n X.list→nsIn W.K mainGlobals n=some none∧nsIn W.K builtinsNs n=some (some (.type "list"))
section
variable {X:Cx}{W:Wd}{sc:Sc}
theorem sg (h:ag n c)(q:(Nat.beq c DBG||Nat.beq c CLD)=false):(n == ("__debug__" : Str))=false∧(n == ("__classdict__" : Str))=false:=by
 simp only[Bool.or_eq_false_iff] at q
 exact⟨by rw[h.beq D8];exact q.1,by rw[h.beq FN];exact q.2⟩
theorem kD (O:bT X W)(h:vY X sc n=some x):SX W sc x (.Name n p):=by
 refine eE1 (fun c=>aA2 fun hc h=>?_) (bnd h)
 refine aA2 (fun q h=>?_) (bu h)
 have is:=bN hc
 obtain⟨d1,d2⟩:=sg is q
 refine oO (aA2 fun k h=>?_) (aA2 fun U h=>?_) (eG h)
 ·refine eE1 (fun i=>aA2 fun hi e=>?_) (aC h);subst e
  exact Dt (bq hi) (bV k) d1
 refine oO (aA2 fun k h=>?_) (aA2 fun U h=>?_) (eG h)
 ·refine eE1 (fun i=>aA2 fun hi e=>?_) (aC h);subst e
  exact FK (bq hi) ((uc k).imp bV bV) d1 d2
 refine aA2 (fun k h=>?_) (az h)
 refine eE1 (fun y=>aA2 fun hy e=>?_) (aC h);subst e
 refine eE1 (fun v=>aA2 fun nv rv=>?_) (O.name n c y is hy)
 exact fun r d A fs env f ι H s kk e hh t=>cU hh.eo hh.st.ground (bV k) nv d1 (hh.px (rv _ _ _ _ hh.st) t)
end
noncomputable def evb (n:Nat)(v:EV)(e:Expr):Expr :=
 bif Nat.beq n 1 then .Name v.n v.p else bif Nat.beq n 2 then .Call v.a v.l v.ks v.p else bif Nat.beq n 3 then .Attribute v.a v.n v.p else bif Nat.beq n 4 then .Constant v.c v.k v.p else bif Nat.beq n 5 then .Subscript v.a v.b v.p else
 bif Nat.beq n 6 then .List v.l v.p else bif Nat.beq n 7 then .Tuple v.l v.k v.p else bif Nat.beq n 8 then .Slice v.o1 v.o2 v.o3 v.p else bif Nat.beq n 9 then .UnaryOp v.op v.a v.p else bif Nat.beq n 10 then .ListComp v.a v.g v.sc v.p else e
theorem evT (e:Expr):evb (ev e).t (ev e) e=e:=by cases e<;>rfl
theorem evI (h:Nat.beq (ev e).t n=true):evb n (ev e) e=e:=by
 have:=evT e
 rwa [aD h] at this
theorem cZ (h:evo e n f=some x):evb n (ev e) e=e∧x=f (ev e):=by
 unfold evo at h
 cases q:Nat.beq (ev e).t n with
 | false=>rw[q] at h;exact ns h
 | true=>rw[q] at h;exact⟨evI q,(ab h).symm⟩
def svb (n:Nat)(v:SV)(s:Stmt):Stmt :=
 bif Nat.beq n 1 then .Return v.o1 v.p else bif Nat.beq n 2 then .Raise v.o1 v.o2 v.p else bif Nat.beq n 3 then .Continue v.p else bif Nat.beq n 4 then @Option.rec FV (fun U=>Stmt) s (fun F=>.FunctionDef F.name F.params F.body F.dec F.ret F.tps F.scope F.tsc F.bind F.pos) v.F else s
theorem svT (s:Stmt):svb (sv s).t (sv s) s=s:=by cases s<;>rfl
theorem svI (h:Nat.beq (sv s).t n=true):svb n (sv s) s=s:=by
 have:=svT s
 rwa [aD h] at this
theorem bQ (h:dR e=some n):∃ p,e = .Name n p:=⟨(ev e).p,by rw[(cZ h).2];exact(cZ h).1.symm⟩
theorem ff (h:jN e=some x):e = .Call x.1 x.2.1 x.2.2.1 x.2.2.2:=by rw[(cZ h).2];exact(cZ h).1.symm
theorem jW (h:jR e=some x):e = .Attribute x.1 x.2.1 x.2.2:=by rw[(cZ h).2];exact(cZ h).1.symm
theorem dX (h:gH e=some c):∃ k p,e = .Constant c k p:=⟨(ev e).k,(ev e).p,by rw[(cZ h).2];exact(cZ h).1.symm⟩
theorem Az (h:cStr c=some s):c = .str s:=by
 cases c<;>first | exact ns h | exact congrArg Const.str (ab h)
theorem n5 (h:cInt c=some s):c = .int s:=by
 cases c<;>first | exact ns h | exact congrArg Const.int (ab h)
theorem qk (h:tO c=true):c = .none:=by
 cases c<;>first | rfl | exact nf h
theorem bZ (h:gG l=some a):l=[a]:=by
 cases l with
 | nil=>exact ns h
 | cons b r=>cases r with
  | nil=>exact congrArg (fun x=>[x]) (ab h)
  | cons _ _=>exact ns h
theorem fJ (h:lX l=some x):l=[x.1,x.2]:=by
 cases l with
 | nil=>exact ns h
 | cons b r =>
  refine eE1 (fun a=>aA2 fun h1 z1q2=>?_) (aC h);obtain rfl:=z1q2
  rw[bZ h1]
theorem aZ (h:isStar e=false)(es:List Expr)(env:Env):starEach (e :: es) env=(false,eval e env) :: starEach es env:=by
 cases e<;>first | rfl | exact tf h
theorem Fj (h:Nat.beq (ev e).t 2=false)(name:Str)(env:Env)(whole:Sem Value):attributeBase e name env whole=whole:=by
 cases e<;>first | rfl | exact tf h
theorem EW (h:Nat.beq (ev f).t 1=false)(as:List Expr)(ks:List Keyword)(p:Pos)(name:Str)(env:Env)(whole:Sem Value):attributeBase (.Call f as ks p) name env whole=whole:=by
 cases f<;>first | rfl | exact tf h
theorem v7 {n:Str}(h:(n != "super")=true)(q:Pos)(as:List Expr)(ks:List Keyword)(p:Pos)(name:Str)(env:Env)(whole:Sem Value):attributeBase (.Call (.Name n q) as ks p) name env whole=whole:=by
 cases as<;>first | rfl | skip
 cases ks<;>first | rfl | skip
 exact if_pos (by rw[h];rfl)
theorem lj {e:Expr}(h:jw e=true)(name:Str)(env:Env)(whole:Sem Value):attributeBase e name env whole=whole:=by
 unfold jw at h
 cases q:Nat.beq (ev e).t 2 with
 | false=>exact Fj q _ _ _
 | true =>
  rw[q] at h
  replace h:qI (ev e).a=true:=h
  unfold qI at h
  rw[← evI q]
  show attributeBase (.Call (ev e).a _ _ _) _ _ _=_
  cases q2:Nat.beq (ev (ev e).a).t 1 with
  | false=>exact EW q2 _ _ _ _ _ _
  | true =>
   rw[q2] at h
   rw[← evI q2]
   exact v7 h _ _ _ _ _ _ _
theorem uk (h:isSet e=false)(env:Env)(x:Value):foldedSetIterable e env x=pure x:=by
 cases e<;>first | rfl | exact tf h
theorem pO (h:isSet e=false)(op:CmpOp):behindInMarks op e=false:=by
 cases e<;>first | rfl | exact tf h
theorem j5 (h:es.all (fun e=>!isStar e)=true)(env:Env):starEach es env=es.map fun e=>(false,eval e env):=by
 induction es with
 | nil=>rfl
 | cons e es ih =>
  obtain⟨h1,h2⟩:=aa h
  rw[aZ (bc h1),ih h2];rfl
theorem plain_any (h:es.all (fun e=>!isStar e)=true)(pos:Pos)(env:Env):(backTo pos (starEach es env)).any (·.1)=false:=by
 rw[j5 h env]
 unfold backTo
 simp
theorem qV (h:es.all (fun e=>!isStar e)=true)(ln:es.length < 30)(pos:Pos)(env:Env):methodCallForm (es.length+([]:List Keyword).length) (backTo pos (starEach es env)) (backToKw pos (keywordEach [] env))=true:=by
 rw[j5 h env]
 unfold methodCallForm backTo backToKw
 rw[show keywordEach [] env=[] from rfl]
 simp[ln]
section
end
section
variable {X:Cx}{W:Wd}{sc:Sc}
theorem dz (hf:∀ e x,f e=some x→SX W sc x e):∀ {l:CL},kY f es=some l→SL W sc l es∧SA W sc l es∧es.all (fun e=>!isStar e)=true:=by
 induction es with
 | nil=>intro l h;obtain rfl:=ab h;exact⟨eC,EJ,rfl⟩
 | cons e es ih =>
  intro l h
  replace h:=bu h;refine bC fun G=>?_;obtain⟨q,h⟩:=h
  replace h:=bnd h;revert h;refine eE1 fun x=>aA2 fun hx h=>?_
  refine eE1 (fun l'=>aA2 fun hl z6q2=>?_) (aC h);obtain rfl:=z6q2
  refine aA3 (fun h1 h2 h3=>?_) (ih hl)
  have al:(e :: es).all (fun e=>!isStar e)=true:=by rw[List.all_cons,q,h3];rfl
  apply G;exact⟨cm (hf _ _ hx) h1 (aZ q es),fN (cm (hf _ _ hx) h1 (aZ q es)) (aZ q es) (plain_any al),al⟩
end
theorem gr (h:o.any p=true):∃ a,o=some a∧p a=true:=by
 cases o with
 | none=>exact nf h
 | some a=>exact⟨a,rfl,h⟩
theorem aq (h:bK c n=true):ag n c:=by
 refine eE1 (fun a=>aA2 fun q h=>?_) (gr h)
 rw[← aD h];exact bN q
theorem fu (h:two f a b k=some x):∃ y z,f a=some y∧f b=some z∧x=k y z:=by
 refine eE1 (fun y=>aA2 fun ha h=>?_) (bnd h)
 refine eE1 (fun z=>aA2 fun hz e=>?_) (aC h)
 exact⟨y,z,ha,hz,e.symm⟩
section
theorem uS (h:qY e=some x):∃ p,e = .Slice x.1 x.2.1 x.2.2 p:=⟨(ev e).p,by rw[(cZ h).2];exact(cZ h).1.symm⟩
theorem FG (h:vUn e=some x):∃ p,e = .UnaryOp x.1 x.2 p:=⟨(ev e).p,by rw[(cZ h).2];exact(cZ h).1.symm⟩
theorem zT (h:Eg e=true):∃ k p q,e = .UnaryOp .USub (.Constant (.int 1) k p) q:=by
 refine eE1 (fun z1q0=>aA2 fun h1 h=>?_) (gr h);obtain⟨op,a⟩:=z1q0
 obtain⟨q,rfl⟩:=FG h1
 obtain⟨h1,h⟩:=aa h
 refine eE1 (fun c=>aA2 fun h2 h=>?_) (gr h)
 refine eE2 (fun k p z5q2=>?_) (dX h2);obtain rfl:=z5q2
 obtain rfl:=n5 (au h)
 refine⟨k,p,q,?_⟩
 cases op<;>first | rfl | exact nf h1
end
section
variable {X:Cx}{W:Wd}{sc:Sc}{f:Expr→Option CX}
def EX (W:Wd)(sc:Sc)(x:CX)(e:Expr):Prop:=SX W sc x e∧(isIte e=false→ST W sc x e)
set_option tactic.hygienic true in
theorem uL (h:zf c=some x):EX W sc x (.Constant c k pos):=by
 cases c<;>first | exact nf h | exact ns h | skip
 ·replace h:=ab h;subst h;exact⟨uh,fun U=>cK uh⟩
 ·replace h:=ab h;subst h;exact⟨oh,fun U=>cK oh⟩
 ·replace h:=ab h;subst h;exact⟨gF,fun U=>cK gF⟩
 ·rename_i s
  refine eE1 (fun c=>aA2 fun q e=>?_) (aC (show(eP s).map (fun c=>xk (.str c))=some x from h));subst e
  exact⟨xf (bN q),fun U=>cK (xf (bN q))⟩
theorem vA (hf:∀ e x,f e=some x→SX W sc x e)(h:yA X f sc es pos=some x):EX W sc x (.Tuple es k pos):=by
 have key:SX W sc x (.Tuple es k pos):=by
  refine eE1 (fun l=>aA2 fun hl h=>?_) (bnd h)
  have s1:SX W sc (vG l) (.Tuple es k pos):=Ey (dz hf hl).1
  revert h
  cases lkP pos.line pos.col X.cases with
  | none=>exact fun h=>ab h▸s1
  | some p =>
   intro h
   refine aA2 (fun q h=>?_) (az h)
   refine aA2 (fun q1 q2=>?_) (aa q)
   replace h:=ab h;subst h
   exact AN ((uc q1).imp aD aD) ⟨_,List.getElem?_eq_getElem (bS q2)⟩ s1
 exact⟨key,fun U=>cK key⟩
theorem zx (hf:∀ e x,f e=some x→SX W sc x e)(h:CV f a op b=some x):EX W sc x (.BinOp a op b pos):=by
 have key:SX W sc x (.BinOp a op b pos):=by
  have go {bn}(sb:vE W op bn)(h:two f a b (rg bn)=some x):SX W sc x (.BinOp a op b pos):=by
   refine eE2 (fun y z=>aA3 fun ha hb e=>?_) (fu h);subst e
   exact nR (hf _ _ ha) (hf _ _ hb) sb
  refine oO (aA2 fun q h=>?_) (aA2 fun U h=>?_) (eG h)
  ·replace q:=au q;subst q;exact go pL h
  refine oO (aA2 fun q h=>?_) (aA2 fun U h=>?_) (eG h)
  ·replace q:=au q;subst q;exact go zr h
  refine oO (aA2 fun q h=>?_) (aA2 fun U h=>?_) (eG h)
  ·replace q:=au q;subst q;exact go zh h
  exact ab h▸rA
 exact⟨key,fun U=>cK key⟩
theorem D9 (hf:∀ e x,f e=some x→EX W sc x e)(h:cUn f op a=some x):EX W sc x (.UnaryOp op a pos):=by
 cases op<;>first | exact ns h | skip
 ·obtain⟨q,h⟩:=bu (show(bif isIte a then none else(f a).map xP)=some x from h)
  refine eE1 (fun y=>aA2 fun hy z8q2=>?_) (aC h);obtain rfl:=z8q2
  exact⟨Eb (hf _ _ hy).1,fun U=>sA ((hf _ _ hy).2 q)⟩
 ·refine eE1 (fun c=>aA2 fun h1 h=>?_) (bnd (show((gH a).bind fun c=>(cInt c).map fun i=>xk (.int (-i)))=some x from h))
  refine eE1 (fun i=>aA2 fun h2 z10q2=>?_) (aC h);obtain rfl:=z10q2
  refine eE2 (fun U U z11q2=>?_) (dX h1);obtain rfl:=z11q2
  obtain rfl:=n5 h2
  exact⟨yP,fun U=>cK yP⟩
theorem uA (hf:∀ e x,f e=some x→EX W sc x e):∀ {x:CX},qJ f op es=some x→SB W sc op x es∧SBT W sc op x es:=by
 induction es with
 | nil=>exact fun h=>ns h
 | cons e es ih =>
  intro x h
  replace h:=bu h;obtain⟨q,h⟩:=h
  replace h:=bnd h;revert h;refine eE1 fun y=>aA2 fun hy h=>?_
  have E:=hf _ _ hy
  cases es with
  | nil =>
   obtain rfl:=ab (show some y=some x from h)
   cases op
   ·exact⟨xI E.1,qA (E.2 q)⟩
   ·exact⟨xI E.1,lM (E.2 q)⟩
  | cons e2 es =>
   refine eE1 (fun z=>aA2 fun hz z16q2=>?_) (aC (show(qJ f op (e2 :: es)).map (fun y'=>G6 op y y')=some x from h));obtain rfl:=z16q2
   obtain⟨i1,i2⟩:=ih hz
   cases op
   ·exact⟨FO E.1 i1,Bw (E.2 q) i2⟩
   ·exact⟨Ih E.1 i1,vQ (E.2 q) i2⟩
theorem tF (h:Gx op=some o):kF W op o:=by
 cases op<;>first | exact nf h | exact ns h | skip
 ·replace h:=ab h;subst h;exact BJ
 ·replace h:=ab h;subst h;exact BL
 ·replace h:=ab h;subst h;exact Aa
 ·replace h:=ab h;subst h;exact AF
 ·replace h:=ab h;subst h;exact AH
 ·replace h:=ab h;subst h;exact rB
 ·replace h:=ab h;subst h;exact Bu
 ·replace h:=ab h;subst h;exact ru
theorem Fz (hf:∀ e x,f e=some x→SX W sc x e)(h:cSl f a w=some x):SX W sc x (.Subscript a (.Slice w.1 w.2.1 w.2.2 p) pos):=by
 obtain⟨lo,hi,st⟩:=w
 have bad:some jo=some x→SX W sc x (.Subscript a (.Slice lo hi st p) pos):=fun h=>ab h▸rA
 cases st with
 | some c =>
  cases q:lo.isNone&&(hi.isNone&&Eg c) with
  | false=>exact bad ((congrArg (fun b=>bif b then(f a).map Cg else some jo) q).symm.trans h)
  | true =>
   refine eE1 (fun y=>aA2 fun hy z19q2=>?_) (aC ((congrArg (fun b=>bif b then(f a).map Cg else some jo) q).symm.trans h));obtain rfl:=z19q2
   obtain⟨q1,q⟩:=aa q
   obtain⟨q2,q3⟩:=aa q
   obtain rfl:=Option.isNone_iff_eq_none.mp q1
   obtain rfl:=Option.isNone_iff_eq_none.mp q2
   refine eE3 (fun U U U z24q3=>?_) (zT q3);obtain rfl:=z24q3
   exact DR (hf _ _ hy)
 | none =>
  cases lo with
  | none=>cases hi with
   | none=>exact bad h
   | some b =>
    replace h:=bnd h;revert h;refine eE1 fun y=>aA2 fun ha h=>?_
    refine eE1 (fun z=>aA2 fun hz z26q2=>?_) (aC h);obtain rfl:=z26q2
    exact AL (hf _ _ ha) (hf _ _ hz)
  | some b=>cases hi with
   | some _=>exact bad h
   | none =>
    replace h:=bnd h;revert h;refine eE1 fun y=>aA2 fun ha h=>?_
    refine eE1 (fun z=>aA2 fun hz z28q2=>?_) (aC h);obtain rfl:=z28q2
    exact Di (hf _ _ ha) (hf _ _ hz)
theorem zK (hf:∀ e x,f e=some x→SX W sc x e)(h:EI f a i=some x):EX W sc x (.Subscript a i pos):=by
 have key:SX W sc x (.Subscript a i pos):=by
  unfold EI at h
  cases q:qY i with
  | some w=>rw[q] at h;obtain⟨_,rfl⟩:=uS q;exact Fz hf h
  | none =>
   rw[q] at h
   replace h:=bnd h;revert h;refine eE1 fun y=>aA2 fun ha h=>?_
   refine eE1 (fun z=>aA2 fun hz z31q2=>?_) (aC h);obtain rfl:=z31q2
   exact DD (hf _ _ ha) (hf _ _ hz)
 exact⟨key,fun U=>cK key⟩
end
theorem mJ (h:mZ sc n=true):sc.names.lookup n=some .globalImplicit:=bV h
theorem dJ (h:isNm c sc n=true):ag n c∧sc.names.lookup n=some .globalImplicit∧(n == ("__debug__" : Str))=false:=by
 unfold isNm at h
 simp only[Bool.and_eq_true,Bool.not_eq_true'] at h
 refine bC fun G=>?_;obtain⟨⟨h1,h2⟩,h3⟩:=h
 have is:=aq h1
 apply G;exact⟨is,mJ h2,(sg is h3).1⟩
section
end
section
variable {X:Cx}{W:Wd}{sc:Sc}{f:Expr→Option CX}
theorem xy (O:bT X W)(hf:∀ e x,f e=some x→SX W sc x e)(h:CN X f o nm=some x):EX W sc x (.Attribute o nm pos):=by
 have key:SX W sc x (.Attribute o nm pos):=by
  refine aA2 (fun q h=>?_) (az h)
  refine eE1 (fun c=>aA2 fun hc h=>?_) (bnd h)
  refine aA2 (fun qa h=>?_) (az h)
  refine eE1 (fun a=>aA2 fun ha e=>?_) (aC h);subst e
  exact BI (hf _ _ ha) (O.attr _ _ (bN hc) qa) (fun env whole=>lj q nm env whole)
 exact⟨key,fun U=>cK key⟩
end
section
variable {X:Cx}{W:Wd}{sc:Sc}{f:Expr→Option CX}
theorem vH (O:bT X W)(bok:iX W)(hf:∀ e x,f e=some x→SX W sc x e){id:Str}{p pos:Pos}{args:List Expr}{x:CX}(h:wV X f sc id args=some x):SX W sc x (.Call (.Name id p) args [] pos):=by
 refine eE1 (fun g=>aA2 fun hg h=>?_) (bnd h)
 refine eE1 (fun l=>aA2 fun hl e=>?_) (aC h);subst e
 exact nJ O.wok bok (kD O hg) (dz hf hl).2.1
theorem zm (hf:∀ e x,f e=some x→EX W sc x e)(h:CE f a op b=some x):EX W sc x (.Compare a [op] [b] pos):=by
 replace h:=bu h;obtain⟨q,h⟩:=h
 replace h:=bnd h;revert h;refine eE1 fun o=>aA2 fun hc h=>?_
 refine eE2 (fun y z=>aA3 fun ha hb z4q4=>?_) (fu h);obtain rfl:=z4q4
 exact⟨EU (hf _ _ ha).1 (hf _ _ hb).1 (tF hc) (pO q op),fun U=>Ef (hf _ _ ha).1 (hf _ _ hb).1 (tF hc) (pO q op)⟩
theorem wN (O:bT X W)(hf:∀ e x,f e=some x→SX W sc x e)(h:CP X f args pos w=some x):SX W sc x (.Call (.Attribute w.1 w.2.1 w.2.2) args [] pos):=by
 refine aA2 (fun q h=>?_) (az h)
 refine aA2 (fun q q3=>?_) (aa q)
 refine aA2 (fun q1 q2=>?_) (aa q)
 replace q3:=bS q3
 refine eE1 (fun c=>aA2 fun hc h=>?_) (bnd h)
 refine aA2 (fun qa h=>?_) (az h)
 refine eE1 (fun a=>aA2 fun ha h=>?_) (bnd h)
 refine eE1 (fun l=>aA2 fun hl e=>?_) (aC h);subst e
 refine aA3 (fun U l2 l3=>?_) (dz hf hl)
 exact z7 O.wok (hf _ _ ha) l2 (O.attr _ _ (bN hc) qa) (fun env whole=>lj q1 w.2.1 env whole) (fun env=>qV l3 (fS q3 (by simp +arith only)) pos env) q2
end
section
variable {X:Cx}{W:Wd}{sc:Sc}{f:Expr→Option CX}
theorem xp (ha:isStar a=false)(hb:isStar b=false)(env:Env):starEach [a,b] env=[(false,eval a env),(false,eval b env)]:=by
 rw[aZ ha,aZ hb];rfl
theorem sa2 {a b:Expr}{y z:CX}(ha:isStar a=false)(hb:isStar b=false)(sy:SX W sc y a)(sz:SX W sc z b):SA W sc (bz y (bz z eE)) [a,b]:=
 fN (cm sy (cm sz eC (aZ hb [])) (aZ ha [b])) (aZ ha [b]) (plain_any (by simp[ha,hb]))
theorem wj (h:CR e=some l):∃ p,e = .List l p:=⟨(ev e).p,by rw[(cZ h).2];exact(cZ h).1.symm⟩
theorem tI (O:bT X W)(hf:∀ e x,f e=some x→SX W sc x e){d:Bool}{id:Str}{p pos:Pos}{args:List Expr}{x:CX}(hd:isNm (bif d then X.dict else X.list) sc id=true)(h:Et X f sc d args=some x):SX W sc x (.Call (.Name id p) args [] pos):=by
 replace h:=bnd h;refine bC fun G=>?_;revert h;refine eE1 fun e=>aA2 fun h1 h=>?_
 obtain rfl:=bZ h1
 replace h:=bnd h;revert h;refine eE1 fun z3q0=>aA2 fun h1 h=>?_;obtain⟨fe,as,ks,zp⟩:=z3q0
 obtain rfl:=ff h1
 replace h:=bnd h;revert h;refine eE1 fun z=>aA2 fun h1 h=>?_
 obtain⟨_,rfl⟩:=bQ h1
 replace h:=bnd h;revert h;refine eE1 fun z7q0=>aA2 fun h1 h=>?_;obtain⟨a,b⟩:=z7q0
 obtain rfl:=fJ h1
 replace h:=az h;obtain⟨q,h⟩:=h
 obtain⟨q0,q⟩:=aa q
 obtain⟨q1,q⟩:=aa q
 obtain⟨q2,q3⟩:=aa q
 obtain rfl:=List.isEmpty_iff.mp q0
 refine eE2 (fun y w=>aA3 fun ha hb z14q4=>?_) (fu h);obtain rfl:=z14q4
 refine aA3 (fun i1 i2 i3=>?_) (dJ q1)
 refine aA3 (fun j1 j2 j3=>?_) (dJ hd)
 obtain⟨z1,z2⟩:=O.zip _ i1
 have l:=sa2 (bc q2) (bc q3) (hf _ _ ha) (hf _ _ hb)
 cases d with
 | true=>apply G;exact zI j2 (O.dict _ j1).1 (O.dict _ j1).2 j3 i2 z1 z2 i3 l (by intros;rfl) (by intros;rfl) (by intros;rfl) (by intros;rfl)
 | false=>apply G;exact Ce j2 (O.list _ j1).1 (O.list _ j1).2 j3 i2 z1 z2 i3 l (by intros;rfl) (by intros;rfl) (by intros;rfl) (by intros;rfl)
theorem yf (O:bT X W)(hf:∀ e x,f e=some x→SX W sc x e){id:Str}{p pos:Pos}{args:List Expr}{x:CX}(q1:isNm X.take sc id=true)(h:Cp f args=some x):SX W sc x (.Call (.Name id p) args [] pos):=by
 refine bC fun G=>?_;refine eE2 (fun ta oa=>aA4 fun T OO ht ho=>?_) (O.kU)
 refine aA3 (fun i1 i2 i3=>?_) (dJ q1)
 have hc:Callee W sc (.ref ta) (.Name id p):=callee i2 (ht _ i1) i3
 replace h:=bnd h;revert h;refine eE1 fun z20q0=>aA2 fun h1 h=>?_;obtain⟨a,b⟩:=z20q0
 obtain rfl:=fJ h1
 replace h:=az h;obtain⟨q,h⟩:=h
 obtain⟨q1,q2⟩:=aa q
 have st:=xp (bc q1) (bc q2)
 cases q2:isIte b with
 | true =>
  rw[q2] at h
  refine eE2 (fun y z=>aA3 fun ha hb z24q4=>?_) (fu h);obtain rfl:=z24q4
  apply G;exact wu T hc (hf _ _ ha) (hf _ _ hb) (by intros;rfl) st
 | false =>
  rw[q2] at h
  refine eE2 (fun y z=>aA3 fun ha hb z25q4=>?_) (fu h);obtain rfl:=z25q4
  apply G;exact DB T hc (hf _ _ ha) (hf _ _ hb) (by intros;rfl) st
theorem zL (O:bT X W)(hf:∀ e x,f e=some x→SX W sc x e){id:Str}{p pos:Pos}{args:List Expr}{x:CX}(q1:isNm X.one sc id=true)(h:GC f args=some x):SX W sc x (.Call (.Name id p) args [] pos):=by
 refine bC fun G=>?_;refine eE2 (fun ta oa=>aA4 fun T OO ht ho=>?_) (O.kU)
 refine aA3 (fun i1 i2 i3=>?_) (dJ q1)
 replace h:=bnd h;revert h;refine eE1 fun z28q0=>aA2 fun h1 h=>?_;obtain⟨a,b⟩:=z28q0
 obtain rfl:=fJ h1
 replace h:=az h;obtain⟨q,h⟩:=h
 replace h:=bnd h;revert h;refine eE1 fun es=>aA2 fun h1 h=>?_
 obtain⟨pl,rfl⟩:=wj h1
 replace h:=bnd h;revert h;refine eE1 fun y=>aA2 fun ha h=>?_
 refine eE1 (fun l=>aA2 fun hl z34q2=>?_) (aC h);obtain rfl:=z34q2
 apply G;exact D3 OO T (callee i2 (ho _ i1) i3) (hf _ _ ha) (dz hf hl).1 (by intros;rfl) (xp (bc q) rfl)
theorem vn (O:bT X W)(bok:iX W)(hf:∀ e x,f e=some x→SX W sc x e){id:Str}{p pos:Pos}{args:List Expr}{x:CX}(h:ry X f sc id args=some x):SX W sc x (.Call (.Name id p) args [] pos):=by
 unfold ry at h
 cases q1:isNm X.take sc id with
 | true=>rw[q1] at h;exact yf O hf q1 h
 | false =>
 rw[q1] at h
 cases q2:isNm X.one sc id with
 | true=>rw[q2] at h;exact zL O hf q2 h
 | false =>
 rw[q2] at h
 cases q3:(isNm X.dict sc id&&sT X sc args) with
 | true=>rw[q3] at h;exact tI (d:=true) O hf (aa q3).1 h
 | false =>
 rw[q3] at h
 cases q4:(isNm X.list sc id&&sT X sc args) with
 | true=>rw[q4] at h;exact tI (d:=false) O hf (aa q4).1 h
 | false=>rw[q4] at h;exact vH O bok hf h
theorem wH (O:bT X W)(bok:iX W)(hf:∀ e x,f e=some x→SX W sc x e)(h:C0 X f sc fe args kws pos=some x):EX W sc x (.Call fe args kws pos):=by
 have key:SX W sc x (.Call fe args kws pos):=by
  refine aA2 (fun q g=>?_) (az h);clear h
  obtain rfl:=List.isEmpty_iff.mp q
  have h:=g
  cases hn:dR fe with
  | some id =>
   rw[hn] at h
   obtain⟨p,rfl⟩:=bQ hn
   exact vn O bok hf h
  | none =>
   rw[hn] at h
   refine eE1 (fun w=>aA2 fun hw h=>?_) (bnd h)
   replace hw:=jW hw;subst hw
   exact wN O hf h
 exact⟨key,fun U=>cK key⟩
theorem qh (O:bT X W)(hf:∀ e x,f e=some x→EX W sc x e)(h:kB X f sc a op b=some x):EX W sc x (.Compare a [op] [b] pos):=by
 refine eE2 (fun ta oa=>aA4 fun T OO ht ho=>?_) (O.kU)
 unfold kB at h
 cases qt:C7 X sc a with
 | none=>rw[qt] at h;exact zm hf h
 | some u =>
  rw[qt] at h
  replace qt:=bnd qt;refine bC fun G=>?_;revert qt;refine eE1 fun z36q0=>aA2 fun h1 qt=>?_;obtain⟨fe,as,ks,cp⟩:=z36q0
  obtain rfl:=ff h1
  replace qt:=bnd qt;revert qt;refine eE1 fun id=>aA2 fun h1 qt=>?_
  obtain⟨p,rfl⟩:=bQ h1
  replace qt:=az qt;obtain⟨q,qt⟩:=qt
  obtain⟨q0,q1⟩:=aa q
  obtain rfl:=List.isEmpty_iff.mp q0
  obtain⟨s,n⟩:=u
  obtain rfl:=fJ qt
  refine aA3 (fun i1 i2 i3=>?_) (dJ q1)
  have hc:Callee W sc (.ref ta) (.Name id p):=callee i2 (ht _ i1) i3
  replace h:=bnd h;revert h;refine eE1 fun c=>aA2 fun h1 h=>?_
  refine eE2 (fun kk pc z47q2=>?_) (dX h1);obtain rfl:=z47q2
  replace h:=bnd h;revert h;refine eE1 fun j=>aA2 fun h1 h=>?_
  obtain rfl:=n5 h1
  replace h:=az h;obtain⟨q,h⟩:=h
  obtain⟨q1,q⟩:=aa q
  obtain⟨q2,q3⟩:=aa q
  have st:=xp (bc q2) (bc q3)
  refine eE2 (fun y z=>aA3 fun ha hb z53q4=>?_) (fu h);obtain rfl:=z53q4
  apply G;refine oO (fun z=>?_) (fun z=>?_) (uc q1)<;>(replace z:=au z;subst z)
  ·exact⟨ug T any_eq hc (hf _ _ ha).1 (hf _ _ hb).1 rfl (by intros;rfl) st,fun U=>sP T any_eq hc (hf _ _ ha).1 (hf _ _ hb).1 rfl (by intros;rfl) st⟩
  ·exact⟨ug T wb hc (hf _ _ ha).1 (hf _ _ hb).1 rfl (by intros;rfl) st,fun U=>sP T wb hc (hf _ _ ha).1 (hf _ _ hb).1 rfl (by intros;rfl) st⟩
end
section
end
section
variable {X:Cx}{W:Wd}{sc:Sc}{f:Expr→Option CX}
theorem EF (h:isSet e=false)(env:Env)(x:Value):foldedSetIterable e env x=pure x:=uk h env x
theorem uT (h:qC e=some x):∃ p q,e = .Call (.Name x.1 p) x.2 [] q:=by
 replace h:=bnd h;refine bC fun G=>?_;revert h;refine eE1 fun z1q0=>aA2 fun h1 h=>?_;obtain⟨fe,as,ks,cp⟩:=z1q0
 obtain rfl:=ff h1
 replace h:=bnd h;revert h;refine eE1 fun n=>aA2 fun h1 h=>?_
 obtain⟨p,rfl⟩:=bQ h1
 replace h:=az h;obtain⟨q,h⟩:=h
 obtain rfl:=List.isEmpty_iff.mp q
 apply G;exact⟨p,cp,by rw[← ab h]⟩
theorem BB (h:Hm e=some x):∃ p,e = .Subscript x.1 x.2 p:=⟨(ev e).p,by rw[(cZ h).2];exact(cZ h).1.symm⟩
theorem tN (h:yO e=some x):∃ k p,e = .Tuple x k p:=⟨(ev e).k,(ev e).p,by rw[(cZ h).2];exact(cZ h).1.symm⟩
theorem fE (hf:∀ e x,f e=some x→SX W sc x e)(h:gI f e=some (it,b)):SI W sc (b=true) it e∧∀ env x,foldedSetIterable e env x=pure x:=by
 replace h:=bu h;obtain⟨q,h⟩:=h
 refine eE1 (fun x=>aA2 fun hx e'=>?_) (aC h)
 replace e':=Prod.mk.inj e';obtain⟨rfl,rfl⟩:=e'
 exact⟨Ie (hf _ _ hx),EF q⟩
theorem sa1 (qa:isStar a=false)(hx:SX W sc x a):SA W sc (bz x eE) [a]:=fN (cm hx eC (aZ qa [])) (aZ qa []) (plain_any (by simp[qa]))
theorem uo (O:bT X W)(hf:∀ e x,f e=some x→SX W sc x e)(h:lg X f sc n a (gI f (.Call (.Name n p) [a] [] pos))=some (it,b)):SI W sc (b=true) it (.Call (.Name n p) [a] [] pos)∧∀ env x,foldedSetIterable (.Call (.Name n p) [a] [] pos) env x=pure x:=by
 unfold lg at h
 cases q:isNm X.enum sc n with
 | true =>
  rw[q] at h
  refine aA3 (fun i1 i2 i3=>?_) (dJ q)
  replace h:=bu h;obtain⟨qa,h⟩:=h
  refine eE1 (fun x=>aA2 fun hx e'=>?_) (aC h)
  replace e':=Prod.mk.inj e';obtain⟨rfl,rfl⟩:=e'
  exact⟨AB rfl i2 (O.enum _ i1).1 (O.enum _ i1).2 i3 (sa1 qa (hf _ _ hx)) (by intros;rfl),by intros;rfl⟩
 | false =>
  rw[q] at h
  cases q2:isNm X.range sc n with
  | true =>
   rw[q2] at h
   refine aA3 (fun i1 i2 i3=>?_) (dJ q2)
   replace h:=bu h;obtain⟨qa,h⟩:=h
   refine eE1 (fun x=>aA2 fun hx e'=>?_) (aC h)
   replace e':=Prod.mk.inj e';obtain⟨rfl,rfl⟩:=e'
   exact⟨wG i2 (O.range _ i1).1 (O.range _ i1).2 i3 (sa1 qa (hf _ _ hx)) (by intros;rfl),by intros;rfl⟩
  | false=>rw[q2] at h;exact fE hf h
theorem uV (O:bT X W)(hf:∀ e x,f e=some x→SX W sc x e)(h:jO X f sc n u (gI f (.Call (.Name n p) [u.1,u.2] [] pos))=some (it,b)):SI W sc (b=true) it (.Call (.Name n p) [u.1,u.2] [] pos)∧∀ env x,foldedSetIterable (.Call (.Name n p) [u.1,u.2] [] pos) env x=pure x:=by
 unfold jO at h
 cases q:isNm X.zip sc n with
 | true =>
  rw[q] at h
  refine bC fun G=>?_;refine aA3 (fun i1 i2 i3=>?_) (dJ q)
  replace h:=az h;obtain⟨qa,h⟩:=h
  obtain⟨q1,q2⟩:=aa qa
  replace h:=bnd h;revert h;refine eE1 fun x=>aA2 fun ha h=>?_
  refine eE1 (fun y=>aA2 fun hy e'=>?_) (aC h)
  replace e':=Prod.mk.inj e';obtain⟨rfl,rfl⟩:=e'
  apply G;exact⟨En rfl i2 (O.zip _ i1).1 (O.zip _ i1).2 i3 (sa2 (bc q1) (bc q2) (hf _ _ ha) (hf _ _ hy)) (by intros;rfl),by intros;rfl⟩
 | false=>rw[q] at h;exact fE hf h
theorem kC (O:bT X W)(hf:∀ e x,f e=some x→SX W sc x e)(h:pS X f sc e=some (it,b)):SI W sc (b=true) it e∧∀ env x,foldedSetIterable e env x=pure x:=by
 unfold pS at h
 cases q:qC e with
 | none=>rw[q] at h;exact fE hf h
 | some w =>
  rw[q] at h
  obtain⟨n,as⟩:=w
  refine eE2 (fun p pos z21q2=>?_) (uT q);obtain rfl:=z21q2
  cases q1:gG as with
  | some a =>
   replace h:@Option.rec Expr (fun U=>Option (CI × Bool)) _ (fun a=>lg X f sc n a _) (gG as)=some (it,b):=h
   rw[q1] at h
   obtain rfl:=bZ q1
   exact uo O hf h
  | none =>
   replace h:@Option.rec Expr (fun U=>Option (CI × Bool)) _ (fun a=>lg X f sc n a _) (gG as)=some (it,b):=h
   rw[q1] at h
   cases q2:lX as with
   | none =>
    replace h:@Option.rec (Expr × Expr) (fun U=>Option (CI × Bool)) _ (fun u=>jO X f sc n u _) (lX as)=some (it,b):=h
    rw[q2] at h;exact fE hf h
   | some u =>
    replace h:@Option.rec (Expr × Expr) (fun U=>Option (CI × Bool)) _ (fun u=>jO X f sc n u _) (lX as)=some (it,b):=h
    rw[q2] at h
    obtain rfl:=fJ q2
    exact uV O hf h
theorem kI (h:o9 sc n=some t):(∃ i,cV i=t∧sc.slots[i]? = some n∧sc.names.lookup n=some .local)∨∃ i,nF i=t∧sc.cells[i]? = some n∧sc.names.lookup n=some .cell:=by
 refine oO (aA2 fun k h=>?_) (aA2 fun U h=>?_) (eG h)
 ·exact .inl (eE1 (fun i=>aA2 fun hi e=>⟨i,e,bq hi,bV k⟩) (aC h))
 refine aA2 (fun k h=>?_) (az h)
 exact .inr (eE1 (fun i=>aA2 fun hi e=>⟨i,e,bq hi,bV k⟩) (aC h))
theorem lL (O:bT X W)(nd:sc.slots.Nodup)(hf:∀ e x,f e=some x→SX W sc x e)(h:oK X f sc e=some t):STg W sc t e:=by
 unfold oK at h
 cases q:dR e with
 | some n =>
  rw[q] at h
  obtain⟨p,rfl⟩:=bQ q
  refine oO (eE1 fun i=>aA3 fun e hi hk=>?_) (eE1 fun i=>aA3 fun e hi hk=>?_) (kI h)<;>subst e
  ·exact y5 nd hi hk
  ·exact Dk hi hk
 | none =>
  rw[q] at h
  cases q1:jR e with
  | some w =>
   replace h:@Option.rec (Expr × Str × Pos) (fun U=>Option CT) (xS f e) (ye X f) (jR e)=some t:=h
   rw[q1] at h
   obtain⟨o,nm,p⟩:=w
   obtain rfl:=jW q1
   replace h:=bnd h;revert h;refine eE1 fun c=>aA2 fun hc h=>?_
   replace h:=az h;obtain⟨qa,h⟩:=h
   refine eE1 (fun a=>aA2 fun ha z35q2=>?_) (aC h);obtain rfl:=z35q2
   exact BK O.wok (hf _ _ ha) (O.attr _ _ (bN hc) qa)
  | none =>
   replace h:@Option.rec (Expr × Str × Pos) (fun U=>Option CT) (xS f e) (ye X f) (jR e)=some t:=h
   rw[q1] at h
   replace h:=bnd h;revert h;refine eE1 fun z36q0=>aA2 fun h1 h=>?_;obtain⟨a,b⟩:=z36q0
   obtain⟨p,rfl⟩:=BB h1
   replace h:=bnd h;revert h;refine eE1 fun x=>aA2 fun ha h=>?_
   refine eE1 (fun y=>aA2 fun hy z39q2=>?_) (aC h);obtain rfl:=z39q2
   exact EC (hf _ _ ha) (hf _ _ hy)
theorem fj (h:isStar e=false)(es:List Expr)(env:Env):assignEach (e :: es) env=(false,assign e env) :: assignEach es env:=by
 cases e<;>first | rfl | exact tf h
theorem oX (hg:∀ e t,g e=some t→STg W sc t e):∀ {ts:CTs},v9 g es=some ts→STs W sc ts es∧∀ env,(assignEach es env).length=es.length∧(assignEach es env).findIdx? (·.1)=none:=by
 induction es with
 | nil=>intro ts h;obtain rfl:=ab h;exact⟨Bo,fun U=>⟨rfl,rfl⟩⟩
 | cons e es ih =>
  intro ts h
  replace h:=bu h;refine bC fun G=>?_;obtain⟨q,h⟩:=h
  replace h:=bnd h;revert h;refine eE1 fun t=>aA2 fun ht h=>?_
  refine eE1 (fun ts'=>aA2 fun hts z43q2=>?_) (aC h);obtain rfl:=z43q2
  obtain⟨h1,h2⟩:=ih hts
  apply G;refine⟨wK (hg _ _ ht) h1 (fj q es),fun env=>?_⟩
  rw[fj q]
  exact⟨congrArg (·+1) (h2 env).1,by simp[List.findIdx?_cons,(h2 env).2]⟩
theorem yN (O:bT X W)(nd:sc.slots.Nodup)(hf:∀ e x,f e=some x→SX W sc x e)(h:yw X f sc e=some t):STg W sc t e:=by
 unfold yw at h
 cases q:yO e with
 | none=>rw[q] at h;exact lL O nd hf h
 | some es =>
  rw[q] at h
  refine eE2 (fun k p z45q2=>?_) (tN q);obtain rfl:=z45q2
  refine eE1 (fun ts=>aA2 fun hts z46q2=>?_) (aC h);obtain rfl:=z46q2
  obtain⟨h1,h2⟩:=oX (fun e t=>lL O nd hf) hts
  exact v5 h1 (fun env=>(h2 env).1) fun env=>(h2 env).2
theorem hY (O:bT X W)(nd:sc.slots.Nodup)(hf:∀ e x,f e=some x→SX W sc x e)(h:lV X f sc e=some t):STg W sc t e:=by
 unfold lV at h
 cases q:yO e with
 | none=>rw[q] at h;exact lL O nd hf h
 | some es =>
  rw[q] at h
  refine eE2 (fun k p z48q2=>?_) (tN q);obtain rfl:=z48q2
  refine eE1 (fun ts=>aA2 fun hts z49q2=>?_) (aC h);obtain rfl:=z49q2
  obtain⟨h1,h2⟩:=oX (fun e t=>yN O nd hf) hts
  exact v5 h1 (fun env=>(h2 env).1) fun env=>(h2 env).2
end
theorem nW (h:AJ o=true):o=some .cell∨o=some .free:=(uc h).imp bV bV
theorem kN (h:jB sc scope=true):fm sc (cN sc scope) scope∧(cN sc scope).slots.Nodup:=by
 unfold jB at h
 simp only[Bool.and_eq_true,List.all_eq_true,decide_eq_true_eq] at h
 obtain⟨⟨h1,h2⟩,h3⟩:=h
 refine⟨⟨?_,fun x hx q=>?_,fun x hx q=>?_,fun n hx=>?_,rfl,rfl,rfl⟩,h3⟩
 ·exact au h1
 ·have:=(h2 x hx).1.1
  rw[q] at this;exact ft this
 ·have:=(h2 x hx).1.2
  rw[q] at this
  exact bV this
 ·have:=(h2 _ hx).2
  refine aA2 (fun q1 q2=>?_) (aa this)
  obtain⟨i,hi⟩:=Option.isSome_iff_exists.mp q1
  exact⟨i,bq hi,nW q2⟩
theorem iG (h:gK e=true):isTup e:=⟨_,_,_,(evI h).symm⟩
section
end
section
variable {X:Cx}{W:Wd}{sc:Sc}{f f':Expr→Option CX}
theorem mA (hf:∀ e x,f e=some x→EX W sc x e)(h:rO f ifs=some c):i4 W sc c ifs:=by
 refine oO (aA2 fun q h=>?_) (aA2 fun U h=>?_) (eG h)
 ·obtain rfl:=List.isEmpty_iff.mp q
  replace h:=ab h;subst h;exact rP
 refine eE1 (fun e=>aA2 fun he h=>?_) (bnd h)
 obtain rfl:=bZ he
 refine aA2 (fun q h=>?_) (bu h)
 exact rN ((hf _ _ h).2 q)
theorem pU (h:a=true)(q:(a&&!b)=false):b=true:=by
 subst h
 cases b with
 | true=>rfl
 | false=>exact tf q
theorem w0 (O:bT X W)(hf:∀ e x,f e=some x→SX W sc x e)(hf':∀ e x,f' e=some x→EX W (cN sc scope) x e)(h:CY X f f' sc elt gens scope=some x):EX W sc x (.ListComp elt gens scope pos):=by
 have key:SX W sc x (.ListComp elt gens scope pos):=by
  replace h:=bnd h;revert h;refine eE1 fun g=>aA2 fun hg h=>?_
  replace hg:=bZ hg;subst hg
  replace h:=az h;revert h;refine aA2 fun q h=>?_
  replace q:=aa q;revert q;refine aA2 fun q0 q=>?_
  replace h:=bnd h;revert h;refine eE1 fun p=>aA2 fun hi h=>?_
  replace h:=bu h;revert h;refine aA2 fun qb h=>?_
  replace h:=bnd h;revert h;refine eE1 fun t=>aA2 fun ht h=>?_
  replace h:=bnd h;revert h;refine eE1 fun c=>aA2 fun hc h=>?_
  refine eE1 (fun y=>aA2 fun hy z5q2=>?_) (aC h);subst z5q2
  obtain⟨target,iter,ifs,as⟩:=g
  replace q0:as=0:=au q0
  subst q0
  obtain⟨co,nd⟩:=kN q
  obtain⟨i1,i2⟩:=kC O hf hi
  refine Bv co i1 (hY O nd (fun e x h=>(hf' e x h).1) ht) (mA hf' hc) (hf' _ _ hy).1 (fun bt=>iG ?_) i2
  exact pU bt qb
 exact⟨key,fun U=>cK key⟩
theorem uj (hf:∀ e x,f e=some x→SX W sc x e)(h:xM f ks vs=some l):SP W sc l ks vs∧ks.all (·.isSome)=true∧ks.length=vs.length:=by
 induction ks generalizing vs l with
 | nil =>
  cases vs with
  | nil=>replace h:=ab h;subst h;exact⟨Eo,rfl,rfl⟩
  | cons _ _=>exact zns h
 | cons k ks ih =>
  cases vs with
  | nil=>exact zns h
  | cons v vs =>
   replace h:=bnd h;refine bC fun G=>?_;revert h;refine eE1 fun k=>aA2 fun hk h=>?_
   subst hk
   replace h:=bnd h;revert h;refine eE1 fun p=>aA2 fun hp h=>?_
   refine eE1 (fun l'=>aA2 fun hl z7q2=>?_) (aC h);subst z7q2
   refine eE2 (fun y z=>aA3 fun ha hb z8q4=>?_) (fu hp);subst z8q4
   refine aA3 (fun h1 h2 h3=>?_) (ih hl)
   apply G;exact⟨zO (hf _ _ ha) (hf _ _ hb) h1,h2,congrArg (·+1) h3⟩
theorem yv (hf:∀ e x,f e=some x→SX W sc x e)(h:yx f ks vs=some x):EX W sc x (.Dict ks vs pos):=by
 have key:SX W sc x (.Dict ks vs pos):=by
  unfold yx at h
  cases q:Nat.ble ks.length 15 with
  | false=>rw[q] at h;(first | exact nf h | exact ns h | cases h)
  | true =>
   rw[q] at h
   refine eE1 (fun l=>aA2 fun hl z10q2=>?_) (aC h);obtain rfl:=z10q2
   refine aA3 (fun h1 h2 h3=>?_) (uj hf hl)
   cases ks with
   | nil =>
    cases vs with
    | nil=>(replace hl:=ab hl;subst hl);exact Aq
    | cons v vs=>injection h3
   | cons k ks=>exact DT h1 h2 h3 (by simp) (bS q)
 exact⟨key,fun U=>cK key⟩
end
section
end
def tS (W:Wd)(lam:Lam):Prop:=∀ sc params body scope pos x,lam sc params body scope pos=some x→SX W sc x (.Lambda params body scope pos)
section
variable {X:Cx}{W:Wd}{lam:Lam}
theorem EB {ex}:ST W sc jo ex:=fun U U U U U U U U U U U U U t=>nomatch t
theorem Dq {ex}:EX W sc jo ex:=⟨rA,fun U=>EB⟩
theorem Aj (hf:∀ e x,f e=some x→EX W sc x e)(h:G8 f c a b=some x):EX W sc x (.IfExp c a b p):=by
 replace h:=bu h;obtain⟨q,h⟩:=h
 refine eE1 (fun y=>aA2 fun hc h=>?_) (bnd h)
 refine eE2 (fun u v=>aA3 fun ha hb e=>?_) (fu h);subst e
 exact⟨EK ((hf _ _ hc).2 q) (hf _ _ ha).1 (hf _ _ hb).1,fun z=>nf z.symm⟩
theorem tG (O:bT X W)(bok:iX W)(L:tS W lam)(n:Nat):∀ (sc:Sc)(e:Expr)(x:CX),cX X lam n sc e=some x→EX W sc x e:=by
 induction n with
 | zero=>exact fun U U U h=>ns h
 | succ n ih =>
  intro sc e x h
  have ih1:∀ sc e x,cX X lam n sc e=some x→SX W sc x e:=fun sc e x h=>(ih sc e x h).1
  cases e<;>first | exact ab (show some jo=some x from h)▸Dq | skip
  case Constant=>exact uL h
  case Name=>exact⟨kD O h,fun U=>cK (kD O h)⟩
  case Tuple=>exact vA (ih1 sc) h
  case List =>
   refine eE1 (fun l=>aA2 fun hl z3q2=>?_) (aC h);obtain rfl:=z3q2
   exact⟨jQ (dz (ih1 sc) hl).1,fun U=>cK (jQ (dz (ih1 sc) hl).1)⟩
  case Dict=>exact yv (ih1 sc) h
  case BinOp=>exact zx (ih1 sc) h
  case UnaryOp=>exact D9 (ih sc) h
  case BoolOp =>
   obtain⟨h1,h2⟩:=uA (ih sc) h
   exact⟨FC h1,fun U=>wD h2⟩
  case Compare =>
   replace h:=bnd h;revert h;refine eE1 fun op=>aA2 fun h1 h=>?_
   replace h:=bnd h;revert h;refine eE1 fun b=>aA2 fun h2 h=>?_
   obtain rfl:=bZ h1
   obtain rfl:=bZ h2
   exact qh O (ih sc) h
  case Call=>exact wH O bok (ih1 sc) h
  case Attribute=>exact xy O (ih1 sc) h
  case Subscript=>exact zK (ih1 sc) h
  case IfExp=>exact Aj (ih sc) h
  case ListComp=>exact w0 O (ih1 sc) (ih _) h
  case Lambda=>have:=L _ _ _ _ _ _ h;exact⟨this,fun U=>cK this⟩
end
theorem tw (h:km e=false)(t:Option Expr)(line:Nat)(env:Env):swapsWith e t line env=pure false:=by
 cases e<;>first | rfl | exact tf h
theorem oN (h:km e=false)(t:Expr)(env:Env)(line:Nat):swapsWithSole [t] e line env=pure false:=tw h (some t) line env
theorem zR (h:jY t=false)(env:Env):swappedStores [t] e env=pure none:=by
 cases t<;>first | rfl | exact tf h
theorem Bp (hz:jY t=true)(h:gK e=false)(env:Env):swappedStores [t] e env=pure none:=by
 cases t<;>first | exact nf hz | (cases e<;>first | rfl | exact nf h.symm)
section
end
section
variable {X:Cx}{W:Wd}{sc:Sc}{f:Expr→Option CX}
theorem kq (O:bT X W)(nd:sc.slots.Nodup)(hf:∀ e x,f e=some x→SX W sc x e)(h:pE X f sc tg e=some c):SS W sc c (.Assign [tg] e pos):=by
 unfold pE at h
 cases q:(km e||isStar tg||(jY tg&&gK e)) with
 | true=>rw[q] at h;(first | exact nf h | exact ns h | cases h)
 | false =>
  rw[q] at h
  dsimp only[cond_false] at h
  simp only[Bool.or_eq_false_iff] at q
  obtain⟨⟨q1,q2⟩,q3⟩:=q
  cases ht:lV X f sc tg with
  | none=>rw[ht] at h;(first | exact nf h | exact ns h | cases h)
  | some t =>
   rw[ht] at h
   refine eE1 (fun x=>aA2 fun hx z2q2=>?_) (aC h);obtain rfl:=z2q2
   refine wZ (hY O nd hf ht) (hf _ _ hx) (fun env=>by rw[fj q2];rfl) (oN q1 tg) fun env U U=>?_
   cases z:jY tg with
   | false=>exact zR z env
   | true=>rw[z] at q3;exact Bp z (by simpa using q3) env
end
section
end
section
variable {X:Cx}{W:Wd}{sc:Sc}{f f':Expr→Option CX}
theorem Ay (nd:sc.slots.Nodup){ns:List Str}:∀ {ts:CTs},Il sc ns=some ts→SWn W sc ts ns:=by
 induction ns with
 | nil=>intro ts h;replace h:=ab h;subst h;exact AP
 | cons n ns ih =>
  intro ts h
  refine aA2 (fun q h=>?_) (az h)
  refine eE1 (fun i=>aA2 fun hi h=>?_) (bnd h)
  refine eE1 (fun t=>aA2 fun ht e=>?_) (aC h);subst e
  exact y9 nd (bq hi) (bV q) (ih ht)
theorem ze (nd:sc.slots.Nodup)(hf:∀ e x,f e=some x→SX W sc x e)(h:tL f sc tgs vs k2 p2=some c):SS W sc c (.Assign [.Tuple tgs k1 p1] (.Tuple vs k2 p2) pos):=by
 refine eE1 (fun o=>aA2 fun hs g=>?_) (bnd h)
 refine eE1 (fun names=>aA2 fun e g1=>?_) (bnd g);subst e
 refine eE1 (fun ts=>aA2 fun ht h=>?_) (bnd g1)
 refine eE1 (fun x=>aA2 fun hx e=>?_) (aC h);subst e
 exact Fs hs rfl (Ay nd ht) (hf _ _ hx)
theorem uu (O:bT X W)(nd:sc.slots.Nodup)(hf:∀ e x,f e=some x→SX W sc x e)(hf':∀ e x,f' e=some x→EX W (cN sc scope) x e)(h:yI X f f' sc y py elt gens scope pos=some c):SS W sc c (.Assign [.Name y py] (.ListComp elt gens scope pos) spos):=by
 refine bC fun G=>?_
 refine eE1 (fun g=>aA2 fun hg h=>?_) (bnd h)
 replace hg:=bZ hg;subst hg
 refine aA2 (fun q h=>?_) (az h)
 refine aA2 (fun q0 q=>?_) (aa q)
 refine aA2 (fun q1 q=>?_) (aa q)
 refine aA2 (fun q2 q3=>?_) (aa q)
 obtain⟨co,nd'⟩:=kN q1
 refine eE1 (fun i=>aA2 fun hy h=>?_) (bnd h)
 refine eE1 (fun p=>aA2 fun hi h=>?_) (bnd h)
 refine aA2 (fun qb h=>?_) (bu h)
 refine eE1 (fun t=>aA2 fun ht h=>?_) (bnd h)
 refine eE1 (fun c=>aA2 fun hc h=>?_) (bnd h)
 refine eE1 (fun z=>aA2 fun hz e=>?_) (aC h);subst e
 obtain⟨target,iter,ifs,as⟩:=g
 replace q0:as=0:=au q0
 subst q0
 obtain⟨i1,i2⟩:=kC O hf hi
 apply G;refine rl nd (bq hy) (bV q3) q2 co i1 (hY O nd' (fun e x h=>(hf' e x h).1) ht) (mA hf' hc) (hf' _ _ hz).1 (fun bt=>iG ?_) i2
 exact pU bt qb
theorem tK (hg:∀ s c,g s=some c→SS W sc c s):∀ {c:CS},bL g b=some c→SSs W sc c b:=by
 induction b with
 | nil=>intro c h;replace h:=ab h;subst h;exact DM
 | cons s r ih =>
  cases r with
  | nil=>exact fun h=>tT (hg _ _ h)
  | cons s2 r =>
   intro c h
   refine eE1 (fun a=>aA2 fun ha h=>?_) (bnd h)
   refine eE1 (fun b=>aA2 fun hb e=>?_) (aC h);subst e
   exact za (hg _ _ ha) (ih hb)
end
section
end
def yK (W:Wd)(C:Tri Kl)(hdl:Hdl):Prop:=∀ sc hs x,hdl sc hs=some x→SHs W sc C x hs
def xr (W:Wd)(oth:Oth):Prop:=∀ sc s x,oth sc s=some x→sc.slots.Nodup→SS W sc x s
section
variable {X:Cx}{W:Wd}{sc:Sc}{f:Expr→Option CX}{g:Scope→Expr→Option CX}
theorem zo (h:wR o=true):o=some none:=by
 cases o with
 | none=>exact nf h
 | some o=>cases o with
  | none=>rfl
  | some _=>exact nf h
theorem B0 {es k p}(env:Env):(assignEach [.Tuple es k p] env).map (·.2)=[assign (.Tuple es k p) env]:=by rfl
theorem oC (h:fz e=some x):e = .Tuple x.1 x.2.1 x.2.2:=by rw[(cZ h).2];exact(cZ h).1.symm
theorem uB (h:rF e=some x):e = .Name x.1 x.2:=by rw[(cZ h).2];exact(cZ h).1.symm
theorem Dm (h:vLC e=some x):e = .ListComp x.1 x.2.1 x.2.2.1 x.2.2.2:=by rw[(cZ h).2];exact(cZ h).1.symm
theorem xJ (O:bT X W)(nd:sc.slots.Nodup)(hf:∀ e x,f e=some x→SX W sc x e)(h:zC X f sc (.Tuple tgs k1 p1) (.Tuple vs k p) tgs (vs,k,p)=some c):SS W sc c (.Assign [.Tuple tgs k1 p1] (.Tuple vs k p) pos):=by
 unfold zC at h
 cases q:wR (swp sc.names tgs vs) with
 | false =>
  replace h:=(congrArg (fun b=>bif b then(lV X f sc (.Tuple tgs k1 p1)).bind fun t=>(f (.Tuple vs k p)).map (qG t) else tL f sc tgs vs k p) q).symm.trans h
  exact ze nd hf h
 | true =>
  replace h:=(congrArg (fun b=>bif b then(lV X f sc (.Tuple tgs k1 p1)).bind fun t=>(f (.Tuple vs k p)).map (qG t) else tL f sc tgs vs k p) q).symm.trans h
  replace h:=bnd h;revert h;refine eE1 fun t=>aA2 fun ht h=>?_
  refine eE1 (fun x=>aA2 fun hx z2q2=>?_) (aC h);obtain rfl:=z2q2
  exact wZ (hY O nd hf ht) (hf _ _ hx) B0 (oN rfl _) fun env h1 h2=>vV (zo q) h1 h2
theorem zU (O:bT X W)(nd:sc.slots.Nodup)(hf:∀ e x,f e=some x→SX W sc x e)(hg:∀ scope e x,g scope e=some x→EX W (cN sc scope) x e)(h:Fy X f g sc tg e=some c):SS W sc c (.Assign [tg] e pos):=by
 unfold Fy at h
 cases q:rF tg with
 | some y =>
  rw[q] at h
  unfold CM at h
  cases q2:vLC e with
  | none=>rw[q2] at h;exact kq O nd hf h
  | some w =>
   rw[q2] at h
   obtain⟨a1,a2,a3,a4⟩:=w
   obtain rfl:=uB q
   obtain rfl:=Dm q2
   exact uu O nd hf (hg _) h
 | none =>
  rw[q] at h
  cases q1:fz tg with
  | none =>
   replace h:@Option.rec (List Expr × Nat × Pos) (fun U=>Option CS) _ (fun u=>@Option.rec (List Expr × Nat × Pos) (fun U=>Option CS) _ _ (fz e)) (fz tg)=some c:=h
   rw[q1] at h;exact kq O nd hf h
  | some u =>
   replace h:@Option.rec (List Expr × Nat × Pos) (fun U=>Option CS) _ (fun u=>@Option.rec (List Expr × Nat × Pos) (fun U=>Option CS) _ _ (fz e)) (fz tg)=some c:=h
   rw[q1] at h
   cases q2:fz e with
   | none =>
    replace h:@Option.rec (List Expr × Nat × Pos) (fun U=>Option CS) _ _ (fz e)=some c:=h
    rw[q2] at h;exact kq O nd hf h
   | some w =>
    replace h:@Option.rec (List Expr × Nat × Pos) (fun U=>Option CS) _ _ (fz e)=some c:=h
    rw[q2] at h
    obtain⟨u1,u2,u3⟩:=u
    obtain⟨w1,w2,w3⟩:=w
    obtain rfl:=oC q1
    obtain rfl:=oC q2
    exact xJ O nd hf h
theorem Cf (O:bT X W)(nd:sc.slots.Nodup)(hf:∀ e x,f e=some x→SX W sc x e)(hb:∀ x,b=some x→SSs W sc x body)(h:Hq X f sc target iter b=some c):SS W sc c (.For target iter body [] pos):=by
 replace h:=bnd h;revert h;refine eE1 fun z10q0=>aA2 fun hi h=>?_;obtain⟨it,tb⟩:=z10q0
 replace h:=bu h;obtain⟨qb,h⟩:=h
 replace h:=bnd h;revert h;refine eE1 fun t=>aA2 fun ht h=>?_
 refine eE1 (fun x=>aA2 fun hx z13q2=>?_) (aC h);obtain rfl:=z13q2
 obtain⟨i1,i2⟩:=kC O hf hi
 refine Dh i1 (hY O nd hf ht) (hb _ hx) (fun bt=>iG ?_) i2
 subst bt
 simpa using qb
theorem Ff (hf:∀ e x,f e=some x→EX W sc x e)(ha:∀ x,a=some x→SSs W sc x b1)(hb:∀ x,b=some x→SSs W sc x b2)(h:cIf f c a b=some x):SS W sc x (.If c b1 b2 pos):=by
 replace h:=bu h;refine bC fun G=>?_;obtain⟨q,h⟩:=h
 replace h:=bnd h;revert h;refine eE1 fun y=>aA2 fun hc h=>?_
 replace h:=bnd h;revert h;refine eE1 fun z=>aA2 fun hz h=>?_
 refine eE1 (fun w=>aA2 fun hw z18q2=>?_) (aC h);obtain rfl:=z18q2
 apply G;exact HC ((hf _ _ hc).2 q) (ha _ hz) (hb _ hw)
theorem B9 (hf:∀ e x,f e=some x→EX W sc x e)(ha:∀ x,a=some x→SSs W sc x b1)(h:Gh f c a=some x):SS W sc x (.While c b1 [] pos):=by
 replace h:=bu h;obtain⟨q,h⟩:=h
 replace h:=bnd h;revert h;refine eE1 fun y=>aA2 fun hc h=>?_
 refine eE1 (fun w=>aA2 fun hw z21q2=>?_) (aC h);obtain rfl:=z21q2
 exact vX ((hf _ _ hc).2 q) (ha _ hw)
theorem Bj (HO:yK W X.C hdl)(hb:∀ x,b=some x→SSs W sc x body)(h:GO X hdl sc hs b=some c):SS W sc c (.Try body hs [] [] pos):=by
 replace h:=bu h;obtain⟨q,h⟩:=h
 replace h:=bnd h;revert h;refine eE1 fun y=>aA2 fun hc h=>?_
 refine eE1 (fun x=>aA2 fun hx z24q2=>?_) (aC h);obtain rfl:=z24q2
 cases hs with
 | nil=>exact nf q.symm
 | cons h1 hl=>exact D2 (hb _ hc) (HO _ _ _ hx)
set_option tactic.hygienic true in
theorem EY {lam:Lam}{m:Nat}{hdl:Hdl}{oth:Oth}{ih:Stmt→Option CS}(O:bT X W)(bok:iX W)(L:tS W lam)(HO:yK W X.C hdl)(OO:xr W oth)(nd:sc.slots.Nodup)(hs:∀ (s:Stmt)(c:CS),ih s=some c→SS W sc c s){s:Stmt}{c:CS}(h:cS1 X lam m hdl oth ih sc s=some c):SS W sc c s:=by
 have hx:∀ sc e x,cX X lam m sc e=some x→EX W sc x e:=fun sc=>tG O bok L m sc
 have h1:∀ e x,cX X lam m sc e=some x→SX W sc x e:=fun e x h=>(hx sc e x h).1
 have hb:∀ b x,bL ih b=some x→SSs W sc x b:=fun b x h=>tK hs h
 cases s<;>first | exact OO _ _ _ h nd | skip
 case Return e p =>
  cases e with
  | none=>exact ab (show some (kg (xk .none))=some c from h)▸By
  | some e =>
   refine eE1 (fun x=>aA2 fun hx z25q2=>?_) (aC (show(cX X lam m sc e).map kg=some c from h));obtain rfl:=z25q2
   exact vU (h1 _ _ hx)
 case Assign =>
  replace h:=bnd h;revert h;refine eE1 fun tg=>aA2 fun h2 h=>?_
  obtain rfl:=bZ h2
  exact zU O nd h1 (fun scope=>hx _) h
 case Expr =>
  replace h:=bu h;obtain⟨q,h⟩:=h
  refine eE1 (fun x=>aA2 fun hx z29q2=>?_) (aC h);obtain rfl:=z29q2
  exact Ai (h1 _ _ hx) fun env line=>tw q none line env
 case If=>exact Ff (hx sc) (hb _) (hb _) h
 case For =>
  replace h:=az h;obtain⟨q,h⟩:=h
  obtain rfl:=List.isEmpty_iff.mp q
  exact Cf O nd h1 (hb _) h
 case While =>
  replace h:=az h;obtain⟨q,h⟩:=h
  obtain rfl:=List.isEmpty_iff.mp q
  exact B9 (hx sc) (hb _) h
 case Pass=>exact ab (show some wA=some c from h)▸AZ
 case Continue=>exact ab (show some xu=some c from h)▸B2
 case Try =>
  replace h:=az h;obtain⟨q,h⟩:=h
  obtain⟨q1,q2⟩:=aa q
  obtain rfl:=List.isEmpty_iff.mp q1
  obtain rfl:=List.isEmpty_iff.mp q2
  exact Bj HO (hb _) h
theorem GV {lam:Lam}{m:Nat}{hdl:Hdl}{oth:Oth}(O:bT X W)(bok:iX W)(L:tS W lam)(HO:yK W X.C hdl)(OO:xr W oth)(nd:sc.slots.Nodup)(n:Nat):∀ (s:Stmt)(c:CS),cS X lam m hdl oth n sc s=some c→SS W sc c s:=by
 induction n with
 | zero=>exact fun U U h=>ns h
 | succ n ih =>
  intro s c h
  replace h:(bif !xH X.cov (qN s) then some iK else cS1 X lam m hdl oth (cS X lam m hdl oth n sc) sc s)=some c:=h
  cases q:(!xH X.cov (qN s)) with
  | true=>rw[q] at h;exact ab (show some iK=some c from h)▸EL
  | false=>rw[q] at h;exact EY O bok L HO OO nd ih h
end
section
end
structure iq (X:Cx)(W:Wd)(fI:Addr)(a1 a2:Str):Prop where
 top:XOk W fI a1 a2
 nm:∀ n c y,ag n c→lkN c X.w9=some y→∃ Ca,W.cls y=some Ca∧W.cls (y+1000)=some Ca∧nsIn W.K mainGlobals n=some (some (.ref Ca))∧keepIn W.K (.ref Ca)=true∧oQ W Ca fI a1 a2 ∧
  ∀ c Cb ini e ms sup,W.cls c=some Cb→X.C.get c=some (.mk ini e ms sup)→mroIn W.K Cb (.ref Ca)=some (Nat.beq y c||nin y sup) ∧
   ((Nat.beq y c||nin y sup)=true→∀ am,ag am aK→nG W.K Cb=true∧hasDictIn W.K Cb=true∧findIn W.K (.ref Cb) am=some none)
section
variable {X:Cx}{W:Wd}{sc:Sc}{f:Expr→Option CX}{fI:Addr}{a1 a2:Str}
theorem nL (h:qu X sc n=some y):∃ c,ag n c∧lkN c X.w9=some y∧sc.names.lookup n=some .globalImplicit∧(n == ("__debug__" : Str))=false:=by
 unfold qu at h
 cases hc:eP n with
 | none=>rw[hc] at h;(first | exact nf h | exact ns h | cases h)
 | some c =>
  rw[hc] at h
  dsimp only at h
  cases q:(mZ sc n&&!(Nat.beq c DBG||Nat.beq c CLD)) with
  | false=>rw[q] at h;(first | exact nf h | exact ns h | cases h)
  | true =>
   rw[q] at h
   simp only[Bool.and_eq_true,Bool.not_eq_true'] at q
   exact⟨c,bN hc,h,mJ q.1,(sg (bN hc) q.2).1⟩
theorem Bs (h:Hn ex=some v):PxC W v ex:=by
 replace h:=bnd h;revert h;refine eE1 fun c=>aA2 fun h1 h=>?_
 refine eE2 (fun k p z2q2=>?_) (dX h1);obtain rfl:=z2q2
 cases q:tO c with
 | true =>
  rw[q] at h
  obtain rfl:=qk q
  obtain rfl:=ab h
  exact AM
 | false =>
  rw[q] at h
  replace h:=bnd h;revert h;refine eE1 fun s=>aA2 fun h2 h=>?_
  obtain rfl:=Az h2
  refine eE1 (fun c=>aA2 fun hc z7q2=>?_) (aC h);obtain rfl:=z7q2
  exact ET (bN hc)
theorem wU (h1:hTy a=some e)(h2:hBd a=[s])(h3:hNm a=nm):∃ p,a = .ExceptHandler (some e) nm [s] p:=by
 cases a with | ExceptHandler t n b p=>exact⟨p,by rw[← show t=some e from h1,← show b=[s] from h2,← show n=nm from h3]⟩
theorem zW {s:Stmt}{e:Expr}(h:Hf s=some e):∃ p,s = .Return (some e) p :=
 ⟨(sv s).p,by rw[← (az h).2];exact(svI (az h).1).symm⟩
theorem yk (h:zq s=true):∃ p,s = .Continue p:=⟨(sv s).p,(svI h).symm⟩
theorem sM {s:Stmt}{x:Option Expr × Option Expr}(h:ES s=some x):∃ p,s = .Raise x.1 x.2 p :=
 ⟨(sv s).p,by rw[← ab (az h).2];exact(svI (az h).1).symm⟩
theorem IX (Y:iq X W fI a1 a2)(h:qu X sc n=some y):∃ Ca,ux W sc X.C y Ca n:=by
 refine bC fun G=>?_;refine eE1 (fun c=>aA4 fun is lk gl db=>?_) (nL h)
 refine eE1 (fun Ca=>aA6 fun h1 h2 h3 h4 h5 h6=>?_) (Y.nm _ _ _ is lk)
 apply G;exact⟨Ca,h5.exc,gl,h3,db,fun c Cb ini e ms sup hc hg=>(h6 c Cb ini e ms sup hc hg).1⟩
theorem FA (Y:iq X W fI a1 a2)(he:qu X sc n=some x)(h:cH0 x s=some g)(hz:SHs W sc X.C z r):SHs W sc X.C (g z) (.ExceptHandler (some (.Name n tp)) none [s] pos :: r):=by
 obtain⟨Ca,E⟩:=IX Y he
 cases q:zq s with
 | true =>
  unfold cH0 at h
  rw[q] at h
  obtain⟨p,rfl⟩:=yk q
  obtain rfl:=ab h
  exact DH E hz
 | false =>
  unfold cH0 at h
  rw[q] at h
  replace h:=bnd h;revert h;refine eE1 fun e=>aA2 fun h1 h=>?_
  obtain⟨p,rfl⟩:=zW h1
  refine eE1 (fun v=>aA2 fun hv z15q2=>?_) (aC h);obtain rfl:=z15q2
  exact D6 E (Bs hv) hz
theorem BS (h:HU ny u=some w):∃ p2 p3 p4,ny=w.1∧u=(.Attribute (.Name w.2.1 p2) w.2.2.1 p3,.Name w.2.2.2 p4):=by
 refine bC fun G=>?_;obtain⟨u1,u2⟩:=u
 replace h:=bnd h;revert h;refine eE1 fun z17q0=>aA2 fun h2 h=>?_;obtain⟨av,am,ap⟩:=z17q0
 replace h:=bnd h;revert h;refine eE1 fun nf2=>aA2 fun h3 h=>?_
 refine eE1 (fun n=>aA2 fun h4 z19q2=>?_) (aC h);obtain rfl:=z19q2
 obtain⟨p2,h3⟩:=bQ h3
 obtain⟨p4,h4⟩:=bQ h4
 apply G;exact⟨p2,ap,p4,rfl,by rw[← h3,← h4,← jW h2]⟩
theorem Cd (h:HL v=some w):∃ p1 p2 p3 p4 p5,v=(.Name w.1 p1,[.Attribute (.Name w.2.1 p2) w.2.2.1 p3,.Name w.2.2.2 p4],[],p5):=by
 refine bC fun G=>?_;obtain⟨f,as,ks,pc⟩:=v
 replace h:=az h;obtain⟨h3,h⟩:=h
 replace h:=bnd h;revert h;refine eE1 fun ny=>aA2 fun h4 h=>?_
 replace h:=bnd h;revert h;refine eE1 fun u=>aA2 fun h5 h=>?_
 refine eE3 (fun p2 p3 p4=>aA2 fun z26q3 hu=>?_) (BS h);obtain rfl:=z26q3
 obtain⟨p1,h4⟩:=bQ h4
 have h5:=fJ h5
 rw[hu] at h5
 apply G;exact⟨p1,p2,p3,p4,pc,by rw[← h4,← List.isEmpty_iff.mp h3,← h5]⟩
theorem rC (h:sU o=true):∃ k p,o=some (.Constant .none k p):=by
 replace h:=gr h;revert h;refine eE1 fun e=>aA2 fun z28q1 h=>?_;obtain rfl:=z28q1
 replace h:=gr h;revert h;refine eE1 fun c=>aA2 fun h1 h=>?_
 refine eE2 (fun k p z30q2=>?_) (dX h1);obtain rfl:=z30q2
 exact⟨k,p,by rw[← qk h]⟩
theorem DK (h:vRC s=some w):∃ p1 p2 p3 p4 p5 p6 p7 k,s = .Raise (some (.Call (.Name w.1 p1) [.Attribute (.Name w.2.1 p2) w.2.2.1 p3,.Name w.2.2.2 p4] [] p5)) (some (.Constant .none k p6)) p7:=by
 replace h:=bnd h;refine bC fun G=>?_;revert h;refine eE1 fun z31q0=>aA2 fun h1 h=>?_;obtain⟨o1,o2⟩:=z31q0
 replace h:=az h;obtain⟨h2,h⟩:=h
 replace h:=bnd h;revert h;refine eE1 fun e=>aA2 fun h3 h=>?_
 replace h:=bnd h;revert h;refine eE1 fun v=>aA2 fun h4 h=>?_
 refine eE5 (fun p1 p2 p3 p4 p5 z35q5=>?_) (Cd h);obtain rfl:=z35q5
 refine eE2 (fun k p6 h2=>?_) (rC h2)
 obtain⟨p7,h1⟩:=sM h1
 apply G;refine⟨p1,p2,p3,p4,p5,p6,p7,k,?_⟩
 have h3:o1=some e:=h3
 have h2:o2=_:=h2
 rw[h1,h3,h2,ff h4]
theorem Fv (Y:iq X W fI a1 a2)(he:qu X sc n=some x)(h:cH1 X sc x nm s=some g)(hz:SHs W sc X.C z r):SHs W sc X.C (g z) (.ExceptHandler (some (.Name n tp)) (some nm) [s] pos :: r):=by
 replace h:=bnd h;refine bC fun G=>?_;revert h;refine eE1 fun z38q0=>aA2 fun h1 h=>?_;obtain⟨ny,nf2,am,n4⟩:=z38q0
 refine eE8 (fun U U U U U U U U z39q8=>?_) (DK h1);obtain rfl:=z39q8
 clear h1
 replace h:=az h;obtain⟨q,h⟩:=h
 obtain⟨q1,q⟩:=aa q
 obtain⟨q2,q⟩:=aa q
 obtain⟨q3,q⟩:=aa q
 obtain⟨q4,q5⟩:=aa q
 obtain rfl:nf2=nm:=au q1
 obtain⟨q2,k3⟩:=aa q2
 obtain⟨k1,k2⟩:=aa q2
 replace h:=bnd h;revert h;refine eE1 fun y=>aA2 fun hy h=>?_
 refine eE1 (fun qq=>aA2 fun hq z48q2=>?_) (aC h);obtain rfl:=z48q2
 refine eE1 (fun c=>aA4 fun is lk gl db=>?_) (nL he)
 refine eE1 (fun Ca=>aA6 fun h1 h2 h3 h4 h5 h6=>?_) (Y.nm _ _ _ is lk)
 refine eE1 (fun c'=>aA4 fun is' lk' gl' db'=>?_) (nL hy)
 refine eE1 (fun Cy=>aA6 fun g1 g2 g3 g4 g5 g6=>?_) (Y.nm _ _ _ is' lk')
 have E:ux W sc X.C x Ca n:=⟨h5.exc,gl,h3,db,fun c Cb ini e ms sup hc hg=>(h6 c Cb ini e ms sup hc hg).1⟩
 apply G;exact Du E Y.top g2 g5 g4 gl' g3 db' (fun m=>by
  have:(sc.slots.any fun a=>decide (a=nf2))=true:=List.any_eq_true.mpr ⟨nf2,m,decide_eq_true rfl⟩
  rw[bc k2] at this;exact nf this) (bV k1) (bc k3) (bq hq) (bV q4) (bc q5) (aq q3)
  (fun c Cb ini e ms sup hc hg hs=>(h6 c Cb ini e ms sup hc hg).2 hs _ (aq q3)) hz
theorem Af (gl:sc.names.lookup n=some .globalImplicit)(h3:nsIn W.K mainGlobals n=some (some (.ref Ca)))(db:(n == ("__debug__" : Str))=false)(h1:W.cls y=some Ca):SX W sc (xk (.cls y)) (.Name n p):=fun U U U U U U U U U U U hh t=>fC hh.eo hh.st.ground gl h3 db (hh.px (.cls h1) t)
theorem Gu (Y:iq X W fI a1 a2):∀ {x:CH},cH X sc l=some x→SHs W sc X.C x l:=by
 induction l with
 | nil=>intro x h;obtain rfl:=ab h;exact DW
 | cons a r ih =>
  intro x h
  replace h:=bnd h;refine bC fun G=>?_;revert h;refine eE1 fun g=>aA2 fun hg h=>?_
  refine eE1 (fun z=>aA2 fun hz z55q2=>?_) (aC h);obtain rfl:=z55q2
  replace hg:=bnd hg;revert hg;refine eE1 fun e=>aA2 fun h1 hg=>?_
  replace hg:=bnd hg;revert hg;refine eE1 fun n=>aA2 fun h2 hg=>?_
  obtain⟨_,rfl⟩:=bQ h2
  replace hg:=bnd hg;revert hg;refine eE1 fun x=>aA2 fun he hg=>?_
  replace hg:=bnd hg;revert hg;refine eE1 fun s=>aA2 fun h3 hg=>?_
  cases q:hNm a with
  | none=>rw[q] at hg;obtain⟨p,rfl⟩:=wU h1 (bZ h3) q;apply G;exact FA Y he hg (ih hz)
  | some nm=>rw[q] at hg;obtain⟨p,rfl⟩:=wU h1 (bZ h3) q;apply G;exact Fv Y he hg (ih hz)
theorem vB (h:xe s=some w):∃ p,s = .Raise (some (.Call w.1 w.2.1 w.2.2.1 w.2.2.2)) none p:=by
 replace h:=bnd h;refine bC fun G=>?_;revert h;refine eE1 fun z63q0=>aA2 fun h1 h=>?_;obtain⟨o1,o2⟩:=z63q0
 replace h:=az h;obtain⟨h2,h⟩:=h
 replace h:=bnd h;revert h;refine eE1 fun e=>aA2 fun h3 h=>?_
 obtain⟨p,h1⟩:=sM h1
 apply G;refine⟨p,?_⟩
 have h3:o1=some e:=h3
 have h2:o2=none:=Option.isNone_iff_eq_none.mp h2
 rw[h1,h3,h2,ff h]
theorem Am (Y:iq X W fI a1 a2)(hf:∀ e x,f e=some x→SX W sc x e)(h:G2 X f sc s=some c):SS W sc c s:=by
 replace h:=bnd h;refine bC fun G=>?_;revert h;refine eE1 fun z67q0=>aA2 fun h1 h=>?_;obtain⟨fn,args,ks,pc⟩:=z67q0
 obtain⟨p,rfl⟩:=vB h1
 clear h1
 replace h:=az h;obtain⟨h1,h⟩:=h
 obtain rfl:ks=[]:=List.isEmpty_iff.mp h1
 clear h1
 replace h:=bnd h;revert h;refine eE1 fun n=>aA2 fun h1 h=>?_
 obtain⟨pn,rfl⟩:∃ p,fn = .Name n p:=bQ h1
 clear h1
 replace h:=bnd h;revert h;refine eE1 fun y=>aA2 fun he h=>?_
 refine eE1 (fun l=>aA2 fun hl z72q2=>?_) (aC h);obtain rfl:=z72q2
 refine eE1 (fun c=>aA4 fun is lk gl db=>?_) (nL he)
 refine eE1 (fun Ca=>aA6 fun h1 h2 h3 h4 h5 h6=>?_) (Y.nm _ _ _ is lk)
 apply G;exact Dz Y.top h1 h5 h4 (Af gl h3 db h1) (dz hf hl).2.1
end
structure j9 (N:Nst)(W:Wd):Prop where
 pat:∀ p∈N.pats,ir W p.1 p.2.1∧W.qual p.2.1=p.2.2
 fr:∀ g,W.free g=N.fr g
 chk:∀ g params body scope,N.chk g params body scope=true→∀ fd:FuncData,fd.params=params→fd.body=body→fd.scope=scope→fd.globals=mainGlobals→fd.builtins=builtinsNs→fd.defaults = .none→fd.kwdefaults = .none→W.cL g fd
section
end
section
variable {N:Nst}{W:Wd}{sc:Sc}
theorem me (O:j9 N W){c:Addr}{q:Str}{p:Addr × Addr × Str}(h:rT N c q=some p):ir W c p.2.1∧W.qual p.2.1=q:=by
 have h1:=List.find?_some h
 have h2:=List.mem_of_find?_eq_some h
 simp only[Bool.and_eq_true,decide_eq_true_eq] at h1
 obtain⟨rfl,rfl⟩:=h1
 exact O.pat p h2
theorem jP (h:jE sc scope=true):∀ n,(n,NameKind.free)∈scope.names→∃ i:Nat,sc.cells[i]? = some n∧(sc.names.lookup n=some .cell∨sc.names.lookup n=some .free):=fun n m=>by
 unfold jE at h
 rw[List.all_eq_true] at h
 refine aA2 (fun q1 q2=>?_) (aa (h _ m))
 obtain⟨i,hi⟩:=Option.isSome_iff_exists.mp q1
 exact⟨i,bq hi,nW q2⟩
theorem yD {scope:Scope}{ns:List Str}:∀ {l:List Nat},C4 sc scope ns=some l→∀ (i:Nat) n,ns[i]? = some n→(n,NameKind.free)∈scope.names∧∃ ci,l[i]? = some ci∧sc.cells[ci]? = some n∧(sc.names.lookup n=some .cell∨sc.names.lookup n=some .free):=by
 induction ns with
 | nil=>exact fun U i n e=>zns e
 | cons m ns ih =>
  intro l h i n e
  refine aA2 (fun q h=>?_) (az h)
  refine aA2 (fun q1 q2=>?_) (aa q)
  refine eE1 (fun j=>aA2 fun hi h=>?_) (bnd h)
  refine eE1 (fun l'=>aA2 fun hl z=>?_) (aC h);subst z
  cases i with
  | zero =>
   replace e:=ab e;subst e
   refine⟨eE1 (fun x=>aA2 fun k z=>?_) (List.any_eq_true.mp q2),j,rfl,bq hi,nW q1⟩
   rw[← au z];exact k
  | succ i=>exact ih hl i n e
theorem jH (O:j9 N W):tS W (uE N):=fun sc params body scope pos x h=>by
 refine bC fun G=>?_
 refine aA2 (fun q h=>?_) (az h)
 refine aA2 (fun q1 q=>?_) (aa q)
 refine aA2 (fun q2 q3=>?_) (aa q)
 refine eE1 (fun cq=>aA2 fun hc h=>?_) (bnd h)
 refine eE1 (fun p=>aA2 fun hn h=>?_) (bnd h)
 obtain⟨t1,t2⟩:=me O hn
 refine eE1 (fun g=>aA2 fun hg h=>?_) (bnd h)
 refine aA2 (fun qc h=>?_) (az h)
 refine eE1 (fun l=>aA2 fun hl e=>?_) (aC h);subst e
 apply G;exact ED ⟨⟨cq.2,hc,rfl⟩,t1,jP q3⟩ ⟨fun i n e=>yD hl i n (by rw[← O.fr g];exact e)⟩ (List.isEmpty_iff.mp q1) (List.isEmpty_iff.mp q2) t2.symm (O.chk g params _ scope qc)
end
theorem BC:bare l=true→∀ env,annotationsOf l env=[]:=by
 induction l with
 | nil=>exact fun U U=>rfl
 | cons a r ih =>
  intro h env
  refine aA2 (fun q h=>?_) (aa h)
  obtain⟨n,o,p⟩:=a
  cases o with
  | none=>exact ih h env
  | some _=>exact nf q
theorem vR (h:Co a=true)(env:Env):annTrees a none env=[]:=by
 obtain⟨po,ar,va,ko,kd,kw,df⟩:=a
 show annotationsOf (ar++po++va.toList++ko++kw.toList) env++[]=[]
 rw[BC (l:=ar++po++va.toList++ko++kw.toList) h env];rfl
section
end
section
variable {N:Nst}{X:Cx}{W:Wd}{sc:Sc}{fI:Addr}{a1 a2:Str}
theorem uN (nd:sc.slots.Nodup){name:Str}{t:CT}(h:o9 sc name=some t):∃ i,(t=cV i∧sc.slots.Nodup∧sc.slots[i]? = some name∧sc.names.lookup name=some .local)∨(t=nF i∧sc.cells[i]? = some name∧sc.names.lookup name=some .cell):=
 oO (eE1 fun i=>aA3 fun e a b=>⟨i,.inl ⟨e.symm,nd,a,b⟩⟩) (eE1 fun i=>aA3 fun e a b=>⟨i,.inr ⟨e.symm,a,b⟩⟩) (kI h)
theorem AD (h:GP s=some F):s = .FunctionDef F.name F.params F.body F.dec F.ret F.tps F.scope F.tsc F.bind F.pos:=by
 obtain⟨h1,h2⟩:=az h
 have e:@Option.rec FV (fun U=>Stmt) s (fun F=>.FunctionDef F.name F.params F.body F.dec F.ret F.tps F.scope F.tsc F.bind F.pos) (sv s).F=s:=svI h1
 rw[h2] at e
 exact e.symm
theorem AE (O:j9 N W)(nd:sc.slots.Nodup)(h:G0 N sc s=some c):SS W sc c s:=by
 replace h:=bnd h;revert h;refine eE1 fun F=>aA2 fun hF h=>?_
 replace hF:=AD hF;subst hF
 replace h:=az h;revert h;refine aA2 fun q h=>?_
 replace h:=bnd h;revert h;refine eE1 fun cq=>aA2 fun hc h=>?_
 replace h:=bnd h;revert h;refine eE1 fun p=>aA2 fun hn h=>?_
 refine eE1 (fun t=>aA2 fun ht z6q2=>?_) (aC h);subst z6q2
 obtain⟨name,params,body,dec,ret,tps,scope,tsc,bind,pos⟩:=F
 replace q:=aa q;revert q;refine aA2 fun q0 q=>?_
 replace q:=aa q;revert q;refine aA2 fun q1 q=>?_
 replace q:=aa q;revert q;refine aA2 fun q2 q=>?_
 replace q:=aa q;revert q;refine aA2 fun q4 q=>?_
 replace q:=aa q;revert q;refine aA2 fun q3 q=>?_
 replace q:=aa q;revert q;refine aA2 fun q5 q=>?_
 replace q:=aa q;revert q;refine aA2 fun q6 q=>?_
 replace q:=aa q;revert q;refine aA2 fun q7 q8=>?_
 clear h;replace q0:bind=name:=au q0
 replace q5:dec=[]:=List.isEmpty_iff.mp q5
 replace q6:ret=none:=Option.isNone_iff_eq_none.mp q6
 replace q7:tps=[]:=List.isEmpty_iff.mp q7
 replace q8:tsc=none:=Option.isNone_iff_eq_none.mp q8
 subst q0 q5 q6 q7 q8
 obtain⟨t1,t2⟩:=me O hn
 exact FJ ⟨⟨cq.2,hc,rfl⟩,t1,jP q3⟩ (uN nd ht) (List.isEmpty_iff.mp q1) (List.isEmpty_iff.mp q2) (vR q4) t2.symm
theorem FU (O:bT X W)(bok:iX W)(Y:iq X W fI a1 a2)(NO:j9 N W):xr W (oth X N m):=fun sc s c h nd=>by
 rcases Option.or_eq_some_iff.mp h with h | ⟨_,h⟩
 ·exact Am Y (fun e x h=>(tG O bok (jH NO) m sc e x h).1) h
 ·exact AE NO nd h
theorem xh (O:bT X W)(bok:iX W)(Y:iq X W fI a1 a2)(NO:j9 N W){m:Nat}(nd:sc.slots.Nodup){b:List Stmt}{c:CS}(h:C8 X N m sc b=some c):SSs W sc c b :=
 tK (fun s c=>GV O bok (jH NO) (fun sc hs x=>Gu Y) (FU O bok Y NO) nd m s c) h
end
section
end
section
variable {N:Nst}{X:Cx}{W:Wd}{sc:Sc}{fI:Addr}{a1 a2:Str}
theorem mN (h:fg p=true):iR p (p.args.map (·.arg)):=by
 unfold fg at h
 simp only[Bool.and_eq_true,List.isEmpty_iff,Option.isNone_iff_eq_none,decide_eq_true_eq] at h
 obtain⟨⟨⟨⟨h1,h2⟩,h3⟩,h4⟩,h5⟩:=h
 exact⟨h1,rfl,h2,h3,h4,h5⟩
theorem Ds {ns:List Str}:∀ {ts:List CT},cPs sc ns=some ts→iE sc ns ts:=by
 induction ns with
 | nil=>intro ts h;replace h:=ab h;subst h;exact .nil
 | cons n ns ih =>
  intro ts h
  refine eE1 (fun t=>aA2 fun ht h=>?_) (bnd h)
  refine eE1 (fun ts'=>aA2 fun hts e=>?_) (aC h);subst e
  refine oO (eE1 fun i=>aA3 fun e hi hk=>?_) (eE1 fun i=>aA3 fun e hi hk=>?_) (kI ht)<;>subst e
  ·exact .loc hi hk (ih hts)
  ·exact .cel hi hk (ih hts)
theorem ki (O:bT X W)(bok:iX W)(Y:iq X W fI a1 a2)(NO:j9 N W)(nd:sc.slots.Nodup)(h:nj X N m sc b=some c):(∃ bd,b = .stmts bd∧SSs W sc c bd)∨∃ e x,b = .expr e∧c=kg x∧SX W sc x e:=by
 cases b with
 | stmts b=>exact .inl ⟨b,rfl,xh O bok Y NO nd h⟩
 | expr e =>
  refine eE1 (fun x=>aA2 fun hx z5q2=>?_) (aC h);obtain rfl:=z5q2
  exact .inr ⟨e,x,rfl,rfl,(tG O bok (jH NO) m sc e x hx).1⟩
set_option tactic.hygienic true in
theorem yR
  (hs:fY hid fd.scope free=true)(hp:fg fd.params=true)(hg:fd.globals=mainGlobals)(hb:fd.builtins=builtinsNs)(hps:cPs (bI hid top fd.scope fd.code fd.qualname free) (fd.params.args.map (·.arg))=some ps)(hl:df.length≤(fd.params.args.map (·.arg)).length)(hc:ownOf fd.scope=[]∨fd.closure=[])
  (hd:∀ (ι:Io)(s:Shared),W.K.In s.heap→(∀ b,Own W ι b→W.base.get? b=none)→∃ od ds,(∀ (A:Around)(E:Value→Shared→Prop)(Q:Option (Array Value)→Shared→Prop),Q od s→wpAny (model W.prog W.w) A (seqItems? fd.defaults) Q E s)∧(od.getD #[]).toList=ds∧RVs W ι s.heap ds df)
  (hbd:(∃ bd,fd.body = .stmts bd∧SSs W (bI hid top fd.scope fd.code fd.qualname free) b bd)∨∃ e x,fd.body = .expr e∧b=kg x∧SX W (bI hid top fd.scope fd.code fd.qualname free) x e) :
  eO W (bI hid top fd.scope fd.code fd.qualname free) fd free (ownOf fd.scope) (fd.params.args.map (·.arg)) (aP hid fd.scope).length (ownOf fd.scope).length ps df b:=by
 unfold fY at hs
 simp only[Bool.and_eq_true,Bool.not_eq_true',decide_eq_true_eq,List.all_eq_true,Bool.or_eq_true,List.isEmpty_iff] at hs
 refine bC fun G=>?_;obtain⟨⟨⟨⟨⟨⟨h1,h2⟩,h3⟩,h4⟩,h5⟩,h6⟩,h7⟩:=hs
 apply G;exact {
  co:=h1,gen:=h2
  kind:=au h3
  names:=rfl,gl:=hg,bi:=hb
  code:=fun q e=>by
   cases top with
   | false=>exact zns e
   | true =>
    have e:(match fd.code with
     | .ref c=>some (c,fd.qualname++".<locals>.")
     | _=>none)=some q:=e
    split at e
    ·rename_i c hc;replace e:=ab e;subst e;exact⟨hc,rfl⟩
    ·exact zns e
  nd:=h4,par:=mN hp,Cc:=Ds hps,FQ:=hl,cells:=rfl,nc:=rfl,C9:=h5
  zl:=fun n hn=>bV (h6 n hn)
  how:=by
   by_cases q:ownOf fd.scope=[]
   ·refine .inl ⟨q,fun x hx e=>?_⟩
    have:x.1∈ownOf fd.scope:=List.mem_map.mpr ⟨x,List.mem_filter.mpr ⟨hx,by rw[e];rfl⟩,rfl⟩
    rw[q] at this;cases this
   ·exact .inr ⟨h7.resolve_left q,hc.resolve_left q⟩
  dflt:=hd
  body:=hbd }
theorem qf (hs:fY hid scope free=true):(aP hid scope).Nodup:=by
 unfold fY at hs
 simp only[Bool.and_eq_true,decide_eq_true_eq] at hs
 exact hs.1.1.1.2
end
theorem dW {W:Wd}{fd:FuncData}(h:fd.defaults = .none)(ι:Io)(s:Shared):∃ od ds,(∀ (A:Around)(E:Value→Shared→Prop)(Q:Option (Array Value)→Shared→Prop),Q od s→wpAny (model W.prog W.w) A (seqItems? fd.defaults) Q E s)∧(od.getD #[]).toList=ds∧RVs W ι s.heap ds []:=
 ⟨none,[],fun A E Q q=>by rw[h];exact wpAny_pure q,rfl,.nil⟩
section
end
theorem zY (h:GH v=some a):∃ t,v = .seq a t:=by
 cases v<;>first | exact⟨_,congrArg (Data.seq · _) (ab h)⟩| exact zns h
theorem Ax (h:DJ v=some a):v = .func a:=by
 cases v<;>first | exact congrArg Data.func (ab h)| exact zns h
theorem jF (h:Bx v=some a):∃ t,v = .int a t:=by
 cases v<;>first | exact⟨_,congrArg (Value.int · _) (ab h)⟩| exact zns h
theorem sW (h:Fq v=some a):∃ t,v = .str a t:=by
 cases v<;>first | exact⟨_,congrArg (Value.str · _) (ab h)⟩| exact zns h
theorem ou (h:DU v=some a):v = .ref a:=by
 cases v<;>first | exact congrArg Value.ref (ab h)| exact zns h
theorem any_some (h:o.any p=true):∃ a,o=some a∧p a=true:=by
 cases o with
 | none=>exact nomatch h
 | some a=>exact⟨a,rfl,h⟩
theorem qd (h:(bif b then o else none)=some a):b=true∧o=some a:=by
 cases b with
 | false=>exact nomatch h
 | true=>exact⟨rfl,h⟩
theorem kz {K:Frag}{a:Addr}{vs:Array Value}(h:wx K a=some vs):∃ n,K.lookup a=some { cls:=.type "tuple",dict:=none,data:=.seq vs n,slots:=#[] }:=by
 refine bC fun G=>?_;refine eE1 (fun z1q0=>aA2 fun e h=>?_) (Option.bind_eq_some_iff.mp h);obtain⟨c,d,t,sl⟩:=z1q0
 obtain⟨q,h⟩:=qd h
 obtain⟨q,q3⟩:=aa q
 obtain⟨q1,q2⟩:=aa q
 obtain⟨n,ht⟩:=zY h
 apply G;refine⟨n,e.trans (congrArg some ?_)⟩
 rw[show c = .type "tuple" from au q1,show d=none from au q2,show t = .seq vs n from ht,show sl=#[] from Array.eq_empty_of_size_eq_zero (aD q3)]
section
variable {W:Wd}{ι:Io}{h:Heap}{cls fn:List (Nat × Addr)}
structure sG (W:Wd)(ι:Io)(h:Heap)(cls fn:List (Nat × Addr)):Prop where
 cls:∀ k a,lkN k cls=some a→W.cls k=some a
 fn:∀ k a,lkN k fn=some a→W.fn k=some a
 In:W.K.In h
 off:∀ a o,W.K.lookup a=some o→¬ Own W ι a
theorem td (hf:∀ v x,f v x=true→RV W ι h v x)(vs:List Value):∀ (xs:List Vl),all2 f vs xs=true→RVs W ι h vs xs:=by
 induction vs with
 | nil=>intro xs e;cases xs with
  | nil=>exact .nil
  | cons _ _=>exact nomatch e
 | cons v vs ih=>intro xs e;cases xs with
  | nil=>exact nomatch e
  | cons x xs=>exact .cons (hf _ _ (aa e).1) (ih xs (aa e).2)
theorem mP (O:sG W ι h cls fn)(n:Nat):∀ (v:Value)(x:Vl),nN W.K cls fn n v x=true→RV W ι h v x:=by
 induction n with
 | zero=>exact fun U U e=>nomatch e
 | succ n ih =>
  intro v x e
  cases x<;>first | exact nf e | skip
  ·exact au e▸RV.none
  ·exact au e▸RV.bool _
  ·obtain⟨t,rfl⟩:=jF (au e);exact .int _ _
  ·refine eE1 (fun s=>aA2 fun q e=>?_) (any_some e)
   obtain⟨t,rfl⟩:=sW q;exact .str _ (aq e)
  ·refine eE1 (fun a=>aA2 fun q e=>?_) (any_some e)
   refine eE1 (fun vs=>aA2 fun q2 e=>?_) (any_some e)
   obtain⟨e1,e2⟩:=aa e
   obtain⟨m,k⟩:=kz q2
   rw[ou q]
   exact .tup (O.In _ _ k) (bS e1) (td ih _ _ e2) (O.off _ _ k)
  ·refine eE1 (fun a=>aA2 fun q e=>?_) (any_some e)
   exact au e▸RV.cls (O.cls _ _ q)
  ·refine eE1 (fun a=>aA2 fun q e=>?_) (any_some e)
   exact au e▸RV.fn (O.fn _ _ q)
  ·exact .bt (au e)
end
theorem lr {x:Obj}{l:List Obj}{n b:Nat}{r:List Nat}{a:Addr}{R:Option Obj}{P:Prop}(e:(fD (x :: l) n (b :: r)).lookup a=R)(h1:(fD l (n+1) (b :: r)).lookup a=R→P)(h2:(fD l (n+1) r).lookup a=R→P)(h3:b=n→x.isFreed=false→((b,x) :: fD l (n+1) r).lookup a=R→P):P:=by
 have e:(bif Nat.beq b n then bif x.isFreed then fD l (n+1) r else(b,x) :: fD l (n+1) r else fD l (n+1) (b :: r)).lookup a=R:=e
 cases q:Nat.beq b n with
 | false=>rw[q] at e;exact h1 e
 | true =>
  rw[q] at e
  cases f:x.isFreed with
  | true=>rw[f] at e;exact h2 e
  | false=>rw[f] at e;exact h3 (aD q) f e
theorem vK {a:Addr}{o:Obj}{l:List Obj}:∀ {n:Nat}{as:List Nat},(fD l n as).lookup a=some o→∃ i,a=n+i∧l[i]? = some o∧o.isFreed=false:=by
 induction l with
 | nil=>exact fun e=>nomatch e
 | cons x l ih =>
  intro n as e
  have up:∀ {as},(fD l (n+1) as).lookup a=some o→∃ i,a=n+i∧(x :: l)[i]? = some o∧o.isFreed=false:=fun e=>eE1 (fun i=>aA3 fun h1 h2 h3=>⟨i+1,by rw[h1];simp +arith only,h2,h3⟩) (ih e)
  cases as with
  | nil=>exact nomatch e
  | cons b r =>
   refine lr e up up fun h1 h2 e=>?_
   rw[List.lookup_cons] at e
   cases z:a == b with
   | true=>rw[z] at e;replace e:=ab e;subst e;exact⟨0,(eq_of_beq z).trans h1,rfl,h2⟩
   | false=>rw[z] at e;exact up e
theorem o8 (e:(ij as h).lookup a=some o):h.get? a=some o:=by
 refine eE1 (fun i=>aA3 fun h1 h2 h3=>?_) (vK e)
 rw[Nat.zero_add] at h1;subst h1
 exact Heap.get?_some_iff.mpr ⟨Array.getElem?_toList.symm.trans h2,h3⟩
theorem qL {a:Addr}{l:List Obj}:∀ {n:Nat}{as:List Nat},a∉as→(fD l n as).lookup a=none:=by
 induction l with
 | nil=>exact fun U=>rfl
 | cons x l ih =>
  intro n as m
  cases as with
  | nil=>rfl
  | cons b r =>
   refine lr rfl (fun e=>e▸ih m) (fun e=>e▸ih fun z=>m (.tail _ z)) fun U U e=>?_
   have ne:a≠b:=fun z=>m (by rw[z];exact .head _)
   rw[← e,List.lookup_cons,beq_eq_false_iff_ne.mpr ne]
   exact ih fun z=>m (.tail _ z)
theorem mV (as:List Nat)(h:Heap):(ij as h).In h:=fun a o e=>o8 e
theorem bH:lkN c l=some x→(c,x)∈l:=by
 induction l with
 | nil=>exact fun e=>nomatch e
 | cons p r ih =>
  intro e
  obtain⟨a,y⟩:=p
  have e:(bif Nat.beq a c then some y else lkN c r)=some x:=e
  cases q:Nat.beq a c with
  | true=>rw[q] at e;rw[aD q,ab e];exact .head _
  | false=>rw[q] at e;exact .tail _ (ih e)
section
end
theorem cF (h:bK c (aJ c)=true)(is:ag n c):n=aJ c:=is.eq (aq h)
theorem DA (p:Program)(w:World):stT p w=stepT (denote treeTable) p w:=by
 unfold stT
 rw[← PySem.W.Fast.te10156331382660048174,← PySem.W.Fast.te11892475500146522536,← PySem.W.Fast.te14364793385576792824]
theorem uR {p:Program}{w:World}{n₀ : Nat}{ann:Option Value}(n:Nat):∀ (s:SharedT)(t:Thread)(s':SharedT),rD p w n₀ ann n s t=some s'→topRun treeTable p w n₀ ann n s.abs t=some s'.abs:=by
 induction n with
 | zero=>exact fun U U U h=>zns h
 | succ n ih =>
  intro s t s' h
  unfold topRun
  refine oO (aA2 fun q h=>?_) (aA2 fun q h=>?_) (eG h)
  ·rw[q];exact congrArg (fun x=>some x.abs) (ab h)
  refine aA2 (fun q2 h=>?_) (az h)
  refine eE1 (fun r=>aA2 fun hs h=>?_) (bnd h)
  obtain⟨s₂,t₂⟩:=r
  rw[DA] at hs
  rw[q,q2]
  dsimp only
  rw[stepT_spec hs]
  exact ih s₂ t₂ s' h
noncomputable def tU:List Obj→Nat→BT→Bool
 | [],_,_=>true
 | o :: l,n,T=>((T.ins n o).get n).isSome&&tU l (n+1) (T.ins n o)
theorem tV:∀ (l:List Obj)(n:Nat)(T:BT)(pre:List Obj),absHeap T n life=⟨pre.toArray,life⟩→tU l n T=true→absHeap (bld l n T) (n+l.length) life=⟨(pre++l).toArray,life⟩
 | [],n,T,pre,e,_=>by simpa [bld] using e
 | o :: l,n,T,pre,e,h=>by
  unfold tU at h
  rw[Bool.and_eq_true] at h
  have e1:=absHeap_ins (life:=life) h.1
  rw[e] at e1
  have:=tV l (n+1) (T.ins n o) (pre++[o]) (by rw[e1];unfold Heap.push;simp) h.2
  rw[List.length_cons,show n+(l.length+1)=n+1+l.length by simp +arith only]
  simpa [bld] using this
theorem yy (w:World):tU (boot_heap w.params).objs.toList 0 .nil=true:=by kernel_rfl
theorem Dw (w:World)(os:OsState):(s0 w os).abs=⟨boot_heap w.params,#[],boot_drawn,boot_toks,os⟩:=by
 have:=tV (life:=(boot_heap w.params).life) _ 0 .nil [] rfl (yy w)
 rw[Nat.zero_add,List.nil_append] at this
 unfold s0 SharedT.abs
 rw[this]
theorem Ak {α : Type}{p q:Program}{loose:List Str}{xt:Shared→Bool}{obs:Heap→α}{val : α}{n₀ N:Nat}{ann:Option Value}(op:opening p=plainProg p.main.scope.names)(fe:∀ s,fenceModules? p s=some s)(hN:Nat.ble 600 N=true)
  (z:∀ w:World,((boot_heap w.params).isNs mainGlobals&&(#[]:Array GenState).size == 0,(boot_heap w.params).objs.size,(boot_heap w.params).nsMap mainGlobals "__annotations__")=(true,n₀,ann))
  (h:∀ w os,(rD p w n₀ ann N (s0 w os) (topStub p)).map (l9 p q loose xt obs w)=some ((true,openGood q loose),val)):LeftO p q loose xt (fun s=>obs s.heap) (fun U=>val) N:=fun w=>by
 obtain⟨⟨hp,gs,d,k,os⟩,e,e'⟩:=aC (boot_open (p:=p) (N:=N) op hN fe w)
 obtain⟨rfl,rfl,rfl,rfl⟩:hp=boot_heap w.params∧gs=Array.mk []∧d=boot_drawn∧k=boot_toks:=by simpa using e'
 obtain⟨s,hs,hl⟩:=aC (h w os)
 have r:=uR _ _ _ _ hs
 rw[Dw] at r
 obtain⟨hl,l3⟩:=Prod.mk.inj hl
 obtain⟨l1,l2⟩:=Prod.mk.inj hl
 obtain⟨z1,z3⟩:=Prod.mk.inj (z w)
 obtain⟨z2,z3⟩:=Prod.mk.inj z3
 unfold openEnds
 rw[e]
 have t:topFrom treeTable p w N ⟨boot_heap w.params,#[],boot_drawn,boot_toks,os⟩=some s.abs:=by
  unfold topFrom
  dsimp only
  rw[z1,z2,z3,r]
  show(match staticsOk (importedModules p.main.body) (boot_heap w.params) s.abs.heap&&namesBound p s.abs.heap&&gensDone s.abs&&laidKept (boot_heap w.params) s.abs.heap with | true=>_ | false=>_)=_
  unfold wB at l1
  simp only[Bool.and_eq_true] at l1
  obtain⟨⟨⟨a,b⟩,c⟩,d⟩:=l1
  rw[a,b,c,d]
  rfl
 show(topFrom treeTable p w N _).map _=_
 rw[t]
 exact congrArg some (Prod.ext l2 l3)
section
noncomputable def iM:DefRec:=match vS with
 | some (.FunctionDef name ps b _ _ _ sc _ _ pos)=>⟨name,ps,b,sc,pos⟩
 | _=>⟨default,default,default,default,default⟩
end
theorem yu (w:World):((boot_heap w.params).isNs mainGlobals&&(#[]:Array GenState).size == 0,(boot_heap w.params).objs.size,(boot_heap w.params).nsMap mainGlobals "__annotations__")=(true,11,some (.ref 6)):=by kernel_rfl
theorem BG:opening pw=plainProg pw.main.scope.names:=by kernel_rfl
theorem zF (s:Shared):fenceModules? pw s=some s:=by kernel_rfl
theorem c1:(chainsOk bY)=true:=by kernel_rfl
theorem c2:opensWell pw=true:=by kernel_rfl
theorem c3:(frees rwl.row.toRowW&&rwl.row.within.isEmpty)=true:=by kernel_rfl
theorem Ee:pw.tablesWhole=true:=by decide +kernel
theorem tM:rwl.row.toRowW.promised:=by w_witness2
theorem tl:defOf bY rwl.name=some (iM,[]):=by kernel_rfl
theorem Es:pw.theDef rwl.name=some (iM.params,iM.body,iM.scope):=by kernel_rfl
theorem Em:kwWritten? iM.params.kwonlyargs iM.params.kw_defaults=some []:=by kernel_rfl
theorem B3:pw.bare:=⟨rfl,rfl,rfl,rfl,rfl,Ee⟩
theorem Dr:(chainsOk bY&&opensWell rwl.row.toRowW.prog&&(frees rwl.row.toRowW&&rwl.row.toRowW.within.isEmpty))=true:=by
 have e:rwl.row.toRowW.prog=pw:=rfl
 rw[e,c1,c2]
 exact c3
noncomputable abbrev cl:=rwl.row.toRowW.claim
theorem head {α : Type}{obs:Heap→α}{val : α}(said:OpenLaw.wellSaid rwl=true)(run:∀ w os,(rD pw w 11 (some (.ref 6)) 7600 (s0 w os) (topStub pw)).map (l9 pw bY loose xt obs w)=some ((true,openGood bY loose),val))
  (call:∀ (w:World)(s₀ s₁ : Shared)(mg mb:Str→Option Value),Ground bY loose [] (XL bY []) w s₀ mg mb s₁.heap→obs s₀.heap=val→∀ (args:List WData)(vs:List Value)(as:List Addr),
   cl.pre args=true→WData.layableAll args=true→Laid [] w s₀ s₁ args vs as→∀ a,mg rwl.name=some (.ref a) →
    wpAny (model pw w) callerA (PySem.call (.ref a) vs) (fun v s'=>GoodWG cl (classAt s₀.heap) (ExcName.means s₀.heap) args s₁ (.ok (.ret v)) s')
     (fun e s'=>GoodWG cl (classAt s₀.heap) (ExcName.means s₀.heap) args s₁ (.error e) s') s₁):rwl.Holds:=by
 have left:LeftO pw bY loose xt (fun s=>obs s.heap) (fun U=>val) 7600:=Ak BG zF rfl yu run
 refine holds_law said fun k1=>⟨k1,tM,open_anyX (r:=rwl.row.toRowW) (q:=bY) (loose:=loose) (Xt:=xt) (XP:=XL bY []) (Yf:=fun s=>obs s.heap) (Ya:=fun U=>val) (run:=fun f vs=>PySem.call f vs) (tree:=fun vs=>do match ← nsGet mainNs rwl.name with
   | some f=>do ret (← PySem.call f vs)
   | none=>unsupported "claim.caller:no-such-global") left (fun s e=>xl_of s (aa e).1) XL.keeps (fun s e=>recFacts_of (aa e).2) rfl Dr B3 tM
  (fun vs w s mg f Q E hg hf h=>wpAny_bind (wpAny_nsGet hg (by rw[show mg rwl.name=some f from hf];exact wpAny_bind (wpAny_mono h (fun U U x=>wpAny_pure x) fun U U x=>x))))
  (fun w s hg G n hn=>?_) fun w s₀ s₁ mg mb G Y args vs as hpre hlay L low=>?_⟩
 ·have hn:n=rwl.name:=by
   split at hn
   ·exact List.mem_singleton.mp hn
   ·cases hn
  subst hn
  exact pinned_of_view hg G tl Es Em
 ·obtain⟨a,o,pm,cd,doc,dV,kV,h1,h2,h3,h4,h5⟩:=G.fn tl
  exact⟨.ref a,h1,call w s₀ s₁ mg mb G Y args vs as hpre hlay L a h1⟩
section
end
section
def obs (h:Heap):(Bool × Bool) × List (Option Txt) × Bool × Bool × Bool × Bool × Bool × Bool × Bool × Bool × Bool × Bool × Bool × Bool × Bool:=(Gk h,HD h)
def val:(Bool × Bool) × List (Option Txt) × Bool × Bool × Bool × Bool × Bool × Bool × Bool × Bool × Bool × Bool × Bool × Bool × Bool:=((true,true),Gs)
end
section
def Hv (g:Nat)(fd:FuncData):Prop:=xc g fd.params fd.body fd.scope=true∧fd.globals=mainGlobals∧fd.builtins=builtinsNs∧fd.defaults = .none
noncomputable def yS (P:Addr):Str:=aJ (((j7.find? fun p=>Nat.beq p.2.1 P).map (·.2.2)).getD 0)
def mkW (h0:Heap)(w:World)(os:OsState)(src:Addr)(on:Option Obj)(bJ:List Nat)(ok:(∀ z∈bJ,1≤z∧z≤4)∧bJ.length≤8):Wd :=
 { K:=KH h0,prog:=pw,w:=w,base:=h0,os:=os,cls:=fun c=>lkN c ng,fn:=fun i=>lkN i fnL,src:=src,cL:=Hv,free:=mW,tabs:=fun P=>∃ p∈j7,p.2.1=P,qual:=yS,on:=on,bJ:=bJ,cY:=ok }
end
structure Obs (h:Heap):Prop where
 t:∀ p∈pY,tx h p.1=kA p.2.1 p.2.2
 vN:ng.all (zw (KH h))=true
 w9:vO.all (zD (KH h))=true
 base:ot h=true
 names:lG.all (ue (KH h))=true
 Jo:D1.all (ya (KH h))=true
 kP:fnL.all (fun p=>keepIn (KH h) (.ref p.2))=true
 attrs:kK.all (fun a=>bK a (aJ a)&&!copiedNames.contains (aJ a))=true
 fns:eQ.all (fun p=>Dd (KH h) p.1)=true
 tabs:j7.all (se h)=true
 Gg:xN.all (fun p=>bK p.1 (aJ p.1)&&decide (nsIn (KH h) mainGlobals (aJ p.1)=some (some (.ref p.2))))=true
 hand:[dQ,jq,fy,iW,eR].all (tj (KH h))=true
 IZ:[dQ,jq,fy,iW].all (fun a=>(rf (KH h) a).any fun fd=>decide (fd.defaults = .none))=true
 Fb:(rf (KH h) eR).any (fun fd=>jA (KH h) fd.defaults [.int 0])=true
 yz:yz.all (tW (KH h))=true
 Js:decide (h.nsMap mainGlobals "law" = some (.ref iW))=true
theorem Ft (e:obs h=val):Obs h :=
 have e1:=congrArg Prod.fst e
 have e2:=congrArg Prod.snd e
 ⟨List.map_inj_left.mp (congrArg Prod.fst e2),congrArg Prod.fst e1,congrArg Prod.snd e1,congrArg (fun x=>x.2.1) e2,congrArg (fun x=>x.2.2.1) e2,congrArg (fun x=>x.2.2.2.1) e2,congrArg (fun x=>x.2.2.2.2.1) e2,congrArg (fun x=>x.2.2.2.2.2.1) e2,congrArg (fun x=>x.2.2.2.2.2.2.1) e2,congrArg (fun x=>x.2.2.2.2.2.2.2.1) e2,congrArg (fun x=>x.2.2.2.2.2.2.2.2.1) e2,congrArg (fun x=>x.2.2.2.2.2.2.2.2.2.1) e2,congrArg (fun x=>x.2.2.2.2.2.2.2.2.2.2.1) e2,congrArg (fun x=>x.2.2.2.2.2.2.2.2.2.2.2.1) e2,congrArg (fun x=>x.2.2.2.2.2.2.2.2.2.2.2.2.1) e2,congrArg (fun x=>x.2.2.2.2.2.2.2.2.2.2.2.2.2) e2⟩
theorem aB {α : Type}{l:List α}{p : α→Bool}(h:l.all p=true){a : α}(m:a∈l):p a=true:=List.all_eq_true.mp h a m
theorem lu {K:Frag}{n:Str}{v:Value}(e:Cq K n=some v):gN K n v:=by
 refine eE1 (fun o=>aA2 fun h1 h2=>?_) (Option.bind_eq_some_iff.mp e)
 cases o with
 | some u=>exact .inl (h1.trans (congrArg some h2))
 | none =>
  have h2:(nsIn K builtinsNs n).bind id=some v:=h2
  refine eE1 (fun o=>aA2 fun h3 h4=>?_) (Option.bind_eq_some_iff.mp h2)
  exact .inr ⟨h1,h3.trans (congrArg some h4)⟩
section
variable {h0:Heap}{w:World}{os:OsState}{src:Addr}{on:Option Obj}{sz:List Nat}{ok:(∀ z∈sz,1≤z∧z≤4)∧sz.length≤8}
theorem constOk (hin:(KH h0).In h)(hf:∀ b,Own (mkW h0 w os src on sz ok) ι b→h0.get? b=none):sG (mkW h0 w os src on sz ok) ι h ng fnL :=
 ⟨fun U U e=>e,fun U U e=>e,hin,fun a o e ow=>by have:=hf a ow;rw[mV _ _ a o e] at this;exact zsn this⟩
theorem zX (O:Obs h0){n:Str}{a:Nat}(is:ag n a)(m:kK.any (Nat.beq a)=true):fi (mkW h0 w os src on sz ok) tC n a:=by
 refine bC fun G=>?_;refine eE1 (fun b=>aA2 fun hb e=>?_) (List.any_eq_true.mp m)
 rw[← aD e] at hb
 obtain⟨q1,q2⟩:=aa (aB O.attrs hb)
 obtain rfl:=cF q1 is
 apply G;refine⟨is,by simpa using q2,fun c Ca i ms sup hc ht=>?_⟩
 refine bC fun G=>?_;obtain⟨_,k⟩:=aa (aB O.vN (bH hc))
 refine eE1 (fun kl=>aA2 fun hk k=>?_) (any_some k)
 rw[ht] at hk;replace hk:=ab hk;subst hk
 obtain⟨_,k⟩:=aa k
 obtain⟨_,k⟩:=aa k
 obtain⟨_,k⟩:=aa k
 obtain⟨k1,k⟩:=aa (aB k hb)
 obtain⟨k2,k3⟩:=aa k
 apply G;refine⟨k1,k2,?_⟩
 cases q:eS ms a with
 | none=>rw[q] at k3;exact au k3
 | some f =>
  rw[q] at k3
  refine bC fun G=>?_;refine eE1 (fun fa=>aA2 fun hfa k3=>?_) (any_some k3)
  obtain⟨j1,k3⟩:=aa k3
  obtain⟨j2,k3⟩:=aa k3
  obtain⟨j3,j4⟩:=aa k3
  apply G;exact⟨fa,au j1,hfa,j2,au j3,au j4⟩
theorem IE (O:Obs h0):WOk (mkW h0 w os src on sz ok) tC where
 kP k a e:=aB O.kP (bH e)
 tP c a e:=(aa (aB O.vN (bH e))).1
 FT c a e:=let ⟨kl,hk,_⟩:=any_some (aa (aB O.vN (bH e))).2;⟨kl,hk⟩
 xY c Ca i ms sup hc ht:=by
  refine bC fun G=>?_;refine eE1 (fun kl=>aA2 fun hk k=>?_) (any_some (aa (aB O.vN (bH hc))).2)
  rw[ht] at hk;replace hk:=ab hk;subst hk
  obtain⟨k1,k⟩:=aa k
  apply G;exact⟨au k1,(aa k).1⟩
 make c Ca f ms sup hc ht:=by
  refine bC fun G=>?_;refine eE1 (fun kl=>aA2 fun hk k=>?_) (any_some (aa (aB O.vN (bH hc))).2)
  rw[ht] at hk;replace hk:=ab hk;subst hk
  obtain⟨_,k⟩:=aa k
  obtain⟨_,k⟩:=aa k
  obtain⟨k1,k⟩:=aa (aa k).1
  refine eE1 (fun fa=>aA2 fun hfa k=>?_) (any_some k)
  obtain⟨k2,k3⟩:=aa k
  apply G;exact⟨k1,fa,hfa,au k2,au k3⟩
theorem eA (O:Obs h0){c:Nat}{T:String}(m:(c,T)∈D1){n:Str}(is:ag n c):nsIn (KH h0) mainGlobals n=some none∧nsIn (KH h0) builtinsNs n=some (some (.type T)):=by
 obtain⟨q1,q2⟩:=aa (aB O.Jo m)
 obtain rfl:=cF q1 is
 obtain⟨q2,q3⟩:=aa q2
 exact⟨au q2,au q3⟩
theorem jv (O:Obs h0){c a:Nat}(m:(c,a)∈xN){n:Str}(is:ag n c):nsIn (KH h0) mainGlobals n=some (some (.ref a)):=by
 obtain⟨q1,q2⟩:=aa (aB O.Gg m)
 obtain rfl:=cF q1 is
 exact au q2
theorem HH (O:Obs h0)(T:dD (mkW h0 w os src on sz ok) dQ)(T1:pA (mkW h0 w os src on sz ok) jq dQ):bT XC (mkW h0 w os src on sz ok) where
 wok:=IE O
 name n c x is e:=by
  obtain⟨q1,q2⟩:=aa (aB O.names (bH e))
  obtain rfl:=cF q1 is
  refine eE1 (fun v=>aA2 fun hv q2=>?_) (any_some q2)
  exact⟨v,lu hv,fun fs ι H s S=>mP (constOk S.ground fun b ob=>(S.fresh b ob).1) 6 v x q2⟩
 attr n c is m:=zX O is m
 kU:=⟨dQ,jq,T,T1,fun n is=>jv O (.head _) is,fun n is=>jv O (.tail _ (.head _)) is⟩
 enum n is:=eA O (.head _) is
 zip n is:=eA O (.tail _ (.head _)) is
 range n is:=eA O (.tail _ (.tail _ (.head _))) is
 dict n is:=eA O (.tail _ (.tail _ (.tail _ (.head _)))) is
 list n is:=eA O (.tail _ (.tail _ (.tail _ (.tail _ (.head _))))) is
end
theorem jC {K:Frag}{a:Addr}{fd:FuncData}(h:rf K a=some fd):∃ oc od osl,K.lookup a=some ⟨oc,od,.func fd,osl⟩:=by
 refine bC fun G=>?_;refine eE1 (fun z1q0=>aA2 fun e h=>?_) (Option.bind_eq_some_iff.mp h);obtain⟨c,d,t,sl⟩:=z1q0
 rw[show t = .func fd from Ax h] at e
 apply G;exact⟨c,d,sl,e⟩
structure rQ (K:Frag)(fd:FuncData):Prop where
 code:codeIn K fd.code fd.qualname=true
 gl:fd.globals=mainGlobals
 bi:fd.builtins=builtinsNs
 cL:fd.closure=[]
theorem mw {K:Frag}{fd:FuncData}(h:qZ K fd=true):rQ K fd:=by
 obtain⟨h1,h⟩:=aa h
 obtain⟨h2,h⟩:=aa h
 obtain⟨h3,h4⟩:=aa h
 exact⟨h1,aD h2,aD h3,List.isEmpty_iff.mp h4⟩
theorem Obs.fn (O:Obs h0)(hm:a∈[dQ,jq,fy,iW,eR])(m:(a,p)∈pY)(hT:kA p.1 p.2=some T):∃ fd oc od osl,(KH h0).lookup a=some ⟨oc,od,.func fd,osl⟩∧keepIn (KH h0) (.ref a)=true∧rQ (KH h0) fd∧uf fd=T:=by
 refine bC fun G=>?_;obtain⟨k,h⟩:=aa (aB O.hand hm)
 refine eE1 (fun fd=>aA2 fun hf hp=>?_) (any_some h)
 refine eE3 (fun oc od osl e=>?_) (jC hf)
 apply G;refine⟨fd,oc,od,osl,e,k,mw hp,?_⟩
 have t:=(O.t _ m).trans hT
 unfold tx at t
 rw[e] at t
 exact ab t
theorem nX:SSs W sc iK b:=fun U U U U U U U U U U U U U U t=>nomatch t
theorem sL (P:rQ (KH h0) fd)(hd:fd.defaults = .none)(hs:fY hid fd.scope []=true)(hp:fg fd.params=true)(hn:fd.params.args.map (·.arg)=[n1,n2])(hps:cPs (bI hid false fd.scope fd.code fd.qualname []) [n1,n2]=some ps)
  (ho:ownOf fd.scope=[])(hl:(aP hid fd.scope).length=2)(hb:fd.body = .stmts bd):eO W (bI hid false fd.scope fd.code fd.qualname []) fd [] [] [n1,n2] 2 0 ps [] iK:=by
 have:=yR (W:=W) (top:=false) (free:=[]) (df:=[]) (b:=iK) hs hp P.gl P.bi (by rw[hn];exact hps) (Nat.zero_le _) (.inl ho) (fun ι s U U=>dW hd ι s) (.inl ⟨bd,hb,nX⟩)
 rw[hn,ho,hl] at this
 exact this
noncomputable def oj:Nat:=29779065188
section
variable {W:Wd}{sc:Sc}{n1 n2 n3:Str}{I:Int→Int→Int→Option Int→Prop}
theorem oz (N:TkN sc n1 n2 n3) {kk p0 p1 pos}:cG W sc n1 n2 n3 I (.Subscript (.Name n1 p0) (.Constant (.int 0) kk p1) pos) (fun x U U U=>x):=yX N (k:=0) (.inl rfl)
theorem m6 (N:TkN sc n1 n2 n3) {kk p0 p1 pos}:cG W sc n1 n2 n3 I (.Subscript (.Name n1 p0) (.Constant (.int 1) kk p1) pos) (fun U y U U=>y):=yX N (k:=1) (.inr rfl)
end
noncomputable def S1:Str:=Str.ofString "source"
noncomputable def S2:Str:=Str.ofString "top"
noncomputable def S4:Str:=Str.ofString "things"
noncomputable def S3:Str:=Str.ofString "drawn"
theorem Obs.none (O:Obs h0)(hm:a∈[dQ,jq,fy,iW])(e:(KH h0).lookup a=some ⟨oc,od,.func fd,osl⟩):fd.defaults = .none:=by
 refine eE1 (fun fd'=>aA2 fun hf hp=>?_) (any_some (aB O.IZ hm))
 refine eE3 (fun U U U e'=>?_) (jC hf)
 rw[e] at e'
 cases e'
 exact au hp
theorem AU {h0:Heap}{w:World}{os:OsState}{src:Addr}{on:Option Obj}{sz:List Nat}{ok:(∀ z∈sz,1≤z∧z≤4)∧sz.length≤8}(O:Obs h0):dD (mkW h0 w os src on sz ok) dQ:=by
 refine eE4 (fun fd oc od osl=>aA4 fun hK hk P ht=>?_) (O.fn (a:=dQ) (p:=(fX,none)) (.head _) (.head _) rfl)
 have hdf:=O.none (.head _) hK
 have e1:fd.params=_:=congrArg Txt.params ht
 have e2:fd.body=_:=congrArg Txt.body ht
 have e3:fd.scope=_:=congrArg Txt.scope ht
 refine⟨⟨oc,od,fd,osl,bI oj false fd.scope fd.code fd.qualname [],S1,S2,S3,_,hK,P.code,sL P hdf ?_ ?_ ?_ ?_ ?_ ?_ e2,e2,?_⟩,hk⟩
 ·rw[e3];kernel_rfl
 ·rw[e1];kernel_rfl
 ·rw[e1];kernel_rfl
 ·unfold bI;rw[e3];kernel_rfl
 ·rw[e3];kernel_rfl
 ·rw[e3];kernel_rfl
 ·have hs:(bI oj false fd.scope fd.code fd.qualname []).names=fd.scope.names:=rfl
  have N:TkN (bI oj false fd.scope fd.code fd.qualname []) S1 S2 S3:=⟨by rw[hs,e3];kernel_rfl,by rw[hs,e3];kernel_rfl,by rw[hs,e3];kernel_rfl,by kernel_rfl,by kernel_rfl,by kernel_rfl⟩
  have h0:∀ x y n (z:Option Int),TkI x y n z→n≠0:=fun x y n z I=>by have:=I.2.2.2.2.1;omega
  have h1:∀ x y n (z:Option Int),TkI x y n z→0 < n∧n < 2 ^ 31:=fun x y n z I=>⟨I.2.2.2.2.1,by have:=I.2.2.2.2.2;omega⟩
  have hb:∀ x y n (z:Option Int),TkI x y n z→Builtin.Int.intBits y≤64:=fun x y n z I=>intBits_le_64 (by have:=I.2.1;omega) (by have:=I.2.2.1;omega)
  exact⟨N,by show aP oj fd.scope=_;rw[e3];kernel_rfl,by decide +kernel,by decide +kernel,⟨_,_,_,_,_,_,_,_,_,_,_,_,_,_,_,_,_,_,_,_,_,_,_,rfl,oz N,ef,rfl,
   n7 (oz N) (rM N) h0,tA (oz N) (rM N) h1,
   ⟨_,n7 (D0 (wX (m6 N) ef fun x y n z I=>.of_left (hb x y n z I)) ef) ef fun U U U U U=>by decide,fun x y n z I=>⟨Int.fmod_nonneg_of_pos _ (by decide),Int.fmod_lt_of_pos _ (by decide)⟩⟩,
   ⟨_,n7 (tA (n7 (wX (m6 N) (m6 N) fun x y n z I=>.of_left (hb x y n z I)) ef fun U U U U U=>by decide) ef fun U U U U U=>by decide) (rM N) h0,fun x y n z I=>⟨Int.fmod_nonneg_of_pos _ (h1 x y n z I).1,Int.fmod_lt_of_pos _ (h1 x y n z I).1⟩⟩,
   by intros;rfl,by intros;rfl,by intros;rfl,by intros;rfl,by intros;rfl,by intros;rfl⟩⟩
theorem Ew {h0:Heap}{w:World}{os:OsState}{src:Addr}{on:Option Obj}{sz:List Nat}{ok:(∀ z∈sz,1≤z∧z≤4)∧sz.length≤8}(O:Obs h0)(hl:∀ n,ag n yE→gN (KH h0) n (.builtin "len")):pA (mkW h0 w os src on sz ok) jq dQ:=by
 refine eE4 (fun fd oc od osl=>aA4 fun hK hk P ht=>?_) (O.fn (a:=jq) (p:=(hV,none)) (.tail _ (.head _)) (.tail _ (.head _)) rfl)
 have hdf:=O.none (.tail _ (.head _)) hK
 have e1:fd.params=_:=congrArg Txt.params ht
 have e2:fd.body=_:=congrArg Txt.body ht
 have e3:fd.scope=_:=congrArg Txt.scope ht
 have hs:(bI 0 false fd.scope fd.code fd.qualname []).names=fd.scope.names:=rfl
 refine⟨⟨oc,od,fd,osl,bI 0 false fd.scope fd.code fd.qualname [],S1,S4,_,_,_,_,_,_,_,_,_,_,hK,P.code,sL P hdf ?_ ?_ ?_ ?_ ?_ ?_ e2,e2,?_,?_,?_,?_,?_,rfl,?_,?_,?_,?_⟩,hk⟩
 ·rw[e3];kernel_rfl
 ·rw[e1];kernel_rfl
 ·rw[e1];kernel_rfl
 ·unfold bI;rw[e3];kernel_rfl
 ·rw[e3];kernel_rfl
 ·rw[e3];kernel_rfl
 ·show aP 0 fd.scope=_
  rw[e3];kernel_rfl
 ·rw[hs,e3];kernel_rfl
 ·rw[hs,e3];kernel_rfl
 ·kernel_rfl
 ·kernel_rfl
 ·exact callee (by rw[hs,e3];kernel_rfl) (jv O (.head _) (aq (by kernel_rfl))) (by kernel_rfl)
 ·exact fun A fs env s Q E eo X h=>cU eo X (by rw[hs,e3];kernel_rfl) (hl _ (aq (by kernel_rfl))) (by kernel_rfl) h
 ·intros;rfl
 ·intros;rfl
section
variable {h0:Heap}{w:World}{os:OsState}{src:Addr}{on:Option Obj}{sz:List Nat}{ok:(∀ z∈sz,1≤z∧z≤4)∧sz.length≤8}
theorem qB (O:Obs h0):∀ n,ag n yE→gN (KH h0) n (.builtin "len"):=fun n is=>by
 obtain⟨q1,q2⟩:=aa (aB O.names (bH (show lkN yE lG=some (.bt 1) by kernel_rfl)))
 obtain rfl:=cF q1 is
 refine eE1 (fun v=>aA2 fun hv q2=>?_) (any_some q2)
 have q:btV 1=some v:=au q2
 replace q:=ab q;subst q
 exact lu hv
theorem xE (O:Obs h0):bT XC (mkW h0 w os src on sz ok):=HH O (AU O) (Ew O (qB O))
noncomputable def A1:Str:=Str.ofString "self"
noncomputable def A2:Str:=Str.ofString "message"
noncomputable def A3:Str:=Str.ofString "spot"
theorem rY:ag am1 aK:=aq (by kernel_rfl)
theorem yb:ag am2 il:=aq (by kernel_rfl)
theorem BR {l:List Value}{cls fn:List (Nat × Addr)}{K:Frag}(h:all2 (nN K cls fn 6) l [.int 0]=true):∃ tk,l=[.int 0 tk]:=by
 cases l with
 | nil=>exact nf h
 | cons v r =>
  obtain⟨h1,h2⟩:=aa h
  obtain⟨t,rfl⟩:=jF (au h1)
  cases r with
  | nil=>exact⟨t,rfl⟩
  | cons _ _=>exact nf h2
theorem JB (O:Obs h0):XOk (mkW h0 w os src on sz ok) eR am1 am2:=by
 refine bC fun G=>?_;refine eE4 (fun fd oc od osl=>aA4 fun hK hk P ht=>?_) (O.fn (a:=eR) (p:=(gW.1,some gW.2)) (.tail _ (.tail _ (.tail _ (.tail _ (.head _))))) (.tail _ (.tail _ (.tail _ (.tail _ (.head _))))) rfl)
 have e1:fd.params=_:=congrArg Txt.params ht
 have e2:fd.body=_:=congrArg Txt.body ht
 have e3:fd.scope=_:=congrArg Txt.scope ht
 refine eE1 (fun fd'=>aA2 fun hf hd=>?_) (any_some O.Fb)
 refine eE3 (fun U U U e'=>?_) (jC hf)
 rw[hK] at e'
 cases e'
 refine eE1 (fun T=>aA2 fun hT hd=>?_) (any_some hd)
 refine eE1 (fun vs=>aA2 fun hvs hd=>?_) (any_some hd)
 obtain⟨nn,hl⟩:=kz hvs
 obtain⟨tk,hv⟩:=BR hd
 apply G;refine⟨⟨oc,od,osl,fd,A1,A2,A3,hK,P.code,?_⟩,rY,yb⟩
 refine⟨by rw[e3],by rw[e3],by rw[e3],P.gl,P.bi,?_,⟨T,_,tk,nn,ou hT,hl,?_⟩,?_,?_,?_,?_,?_,?_,?_,?_,?_,?_,?_⟩
 ·rw[e1];exact mN (by kernel_rfl)
 ·exact congrArg (Data.seq · nn) (Array.toList_inj.mp hv)
 ·have:fd.scope.names.all (fun x=>decide (x.2≠.cell))=true:=by rw[e3];kernel_rfl
  exact fun x m=>au (aB this m)
 ·rw[e3];kernel_rfl
 ·rw[e3];kernel_rfl
 ·rw[e3];kernel_rfl
 ·rw[e3];kernel_rfl
 ·kernel_rfl
 ·kernel_rfl
 ·kernel_rfl
 ·exact(eA O (.tail _ (.tail _ (.tail _ (.tail _ (.tail _ (.head _)))))) (aq (by kernel_rfl))).1
 ·exact(eA O (.tail _ (.tail _ (.tail _ (.tail _ (.tail _ (.head _)))))) (aq (by kernel_rfl))).2
 ·rw[rY.eq (aq (by kernel_rfl:bK aK (Str.ofString "message")=true)),yb.eq (aq (by kernel_rfl:bK il (Str.ofString "spot")=true))]
  exact⟨_,e2,⟨_,_,_,_,_,_,_,_,_,_,_,_,_,_,rfl,by rfl⟩⟩
theorem Im {C:Addr}(h:th (KH h0) C=true):oQ (mkW h0 w os src on sz ok) C eR am1 am2:=by
 refine bC fun G=>?_;obtain⟨q1,h⟩:=aa h
 obtain⟨q2,h⟩:=aa h
 obtain⟨q3,h⟩:=aa h
 obtain⟨q4,h⟩:=aa h
 obtain⟨q5,h⟩:=aa h
 obtain⟨q6,h⟩:=aa h
 obtain⟨q7,h⟩:=aa h
 obtain⟨q8,q9⟩:=aa h
 apply G;exact⟨q1,au q2,au q3,au q4,rZ q5,au q6,au q7,q8,au q9⟩
theorem xx (O:Obs h0):iq XC (mkW h0 w os src on sz ok) eR am1 am2:=⟨JB O,fun n c y is e=>by
 refine bC fun G=>?_;obtain⟨q1,h⟩:=aa (aB O.w9 (bH e))
 obtain rfl:=cF q1 is
 refine eE1 (fun Ca=>aA2 fun hC h=>?_) (any_some h)
 obtain⟨q2,h⟩:=aa h
 obtain⟨q3,h⟩:=aa h
 obtain⟨q4,h⟩:=aa h
 obtain⟨q5,h⟩:=aa h
 apply G;refine⟨Ca,hC,au q2,au q3,q4,Im q5,fun c Cb ini e ms sup hc hg=>?_⟩
 refine bC fun G=>?_;refine eE1 (fun kl=>aA2 fun hk k=>?_) (any_some (aB h (bH hc)))
 have hg:tC.get c=some (.mk ini e ms sup):=hg
 rw[hg] at hk;replace hk:=ab hk;subst hk
 obtain⟨k1,k2⟩:=aa k
 apply G;refine⟨au k1,fun hs am ia=>?_⟩
 rw[hs] at k2
 refine bC fun G=>?_;obtain⟨j1,k2⟩:=aa k2
 obtain⟨j2,j3⟩:=aa k2
 apply G;rw[ia.eq rY]
 exact⟨j1,j2,au j3⟩⟩
end
theorem te (h:EH v=some a):v = .fields a:=by
 cases v<;>first | exact congrArg Data.fields (ab h)| exact zns h
theorem BA (h:Gv v=true):v = .plain:=by
 cases v<;>first | rfl | exact nf h
theorem some_of (h:o.isSome=true):∃ a,o=some a:=Option.isSome_iff_exists.mp h
theorem nu (h:(!Nat.beq a b)=true):a≠b:=fun z=>by rw[z,Nat.beq_refl] at h;exact nf h
theorem Ao (m:a∈l):nin a l=true:=by
 induction l with
 | nil=>cases m
 | cons b r ih =>
  show(@Bool.rec (fun U=>Bool) (nin a r) true (Nat.beq a b))=true
  cases q:Nat.beq a b with
  | true=>rfl
  | false =>
   cases m with
   | head=>rw[Nat.beq_refl] at q;exact absurd q Bool.noConfusion
   | tail _ m=>exact ih m
theorem uW (m:a∉as):(ij as h).lookup a=none:=qL m
structure DZ (h:Heap):Prop where
 g:∃ o es ep,h.get? mainGlobals=some o∧o.cls≠.none∧o.data = .dict es ep∧StrKeys es∧(∀ name,nsFind es name=h.nsMap mainGlobals name)
 b:h.nsMap mainGlobals "__builtins__" = some (.ref 4)
 m:∃ o,h.get? 4=some o∧o.cls = .type "module"∧o.dict=some builtinsNs∧o.data = .plain
 lim:h.NoLimit
 mods:∃ o,h.get? sysModules=some o
 size:h.objs.size=1047
theorem fR (c:ot h=true):DZ h:=by
 obtain⟨h1,c⟩:=aa c
 obtain⟨h2,c⟩:=aa c
 obtain⟨h3,c⟩:=aa c
 obtain⟨h4,c⟩:=aa c
 obtain⟨h5,c⟩:=aa c
 obtain⟨h6,c⟩:=aa c
 obtain⟨h7,h8⟩:=aa c
 refine eE3 (fun o es ep=>aA4 fun g d k f=>?_) (Heap.Ns.of_isNs h1)
 refine eE1 (fun o2=>aA2 fun g2 q2=>?_) (any_some h2)
 rw[g] at g2;replace g2:=ab g2;subst g2
 refine eE1 (fun o4=>aA2 fun g4 q4=>?_) (any_some h4)
 obtain⟨q4,q5⟩:=aa q4
 obtain⟨q5,q6⟩:=aa q5
 exact⟨⟨o,es,ep,g,fun z=>by rw[z] at q2;exact nf q2,d,k,f⟩,au h3,⟨o4,g4,au q4,au q5,BA q6⟩,⟨_,Heap.Ns.of_isNs h5,au h6⟩,some_of h7,aD h8⟩
section
variable {h0:Heap}{w:World}{os:OsState}{src:Addr}{on:Option Obj}{sz:List Nat}{ok:(∀ z∈sz,1≤z∧z≤4)∧sz.length≤8}
theorem wF (c:se h0 p=true):CodeHd h0 p.1 p.2.1∧h0.get? p.2.1=some (tabObj #[])∧h0.TableAt p.1 p.2.1 #[]∧p.2.1≠cStatics∧p.2.1≠4∧p.2.1∉zt:=by
 refine bC fun G=>?_;obtain⟨c,c3⟩:=aa c
 obtain⟨c1,c2⟩:=aa c
 obtain⟨c1,d4⟩:=aa c1
 obtain⟨c1,d3⟩:=aa c1
 obtain⟨d1,d2⟩:=aa c1
 refine eE1 (fun o=>aA2 fun g c2=>?_) (any_some c2)
 obtain⟨k,c2⟩:=aa c2
 refine eE1 (fun vs=>aA2 fun hv c2=>?_) (any_some c2)
 obtain⟨f1,c2⟩:=aa c2
 obtain⟨f2,c2⟩:=aa c2
 obtain⟨f3,c2⟩:=aa c2
 obtain⟨f4,c2⟩:=aa c2
 obtain⟨f5,f6⟩:=aa c2
 obtain⟨file,f3⟩:=some_of f3
 obtain⟨tf,f3⟩:=sW f3
 obtain⟨flags,f4⟩:=some_of f4
 obtain⟨tg,f4⟩:=jF f4
 obtain⟨text,f6⟩:=some_of f6
 obtain⟨tt,f6⟩:=jF f6
 refine eE1 (fun z32q0=>aA2 fun g2 c3=>?_) (any_some c3);obtain⟨pc,pd,pt,ps⟩:=z32q0
 obtain⟨e1,c3⟩:=aa c3
 obtain⟨e2,c3⟩:=aa c3
 obtain⟨e3,c3⟩:=aa c3
 refine eE1 (fun us=>aA2 fun e4 e5=>?_) (any_some c3)
 have k:=au k
 have hv:=te hv
 have gP:h0.get? p.2.1=some (tabObj #[]):=by
  rw[g2,show pc = .none from au e1,show pd=none from au e2,show ps=#[] from Array.eq_empty_of_size_eq_zero (aD e3),show pt = .fields us from te e4,Array.eq_empty_of_size_eq_zero (aD e5)]
 apply G;exact⟨⟨o,vs,file,tf,flags,tg,true,text,tt,g,k,hv,au f1,au f2,f3,f4,au f5,f6,nu d1⟩,gP,⟨⟨o,vs,g,k,hv,au f1⟩,gP⟩,nu d2,(nu d3).symm,fun z=>by rw[Ao z] at d4;exact nf d4⟩
theorem Fh (O:Obs h0)(m:p∈j7):ir (mkW h0 w os src on sz ok) p.1 p.2.1:=by
 refine bC fun G=>?_;refine aA6 (fun t1 t2 t3 t4 t5 t6=>?_) (wF (aB O.tabs m))
 have B:=fR O.base
 refine eE3 (fun o es ep=>aA5 fun g k d q1 q2=>?_) (B.g)
 refine eE1 (fun om=>aA4 fun g4 k4 d4 p4=>?_) (B.m)
 apply G;exact⟨⟨p,m,rfl⟩,t1,⟨_,t3⟩,uW t6,t4,⟨_,o,es,ep,g,k,d,q1,q2,4,om,B.b,by decide,by decide,fun z=>t5 z.symm,g4,k4,d4,p4⟩⟩
theorem Ap:j7.all (fun p=>decide (yS p.2.1=aJ p.2.2))=true:=by kernel_rfl
theorem rX (O:Obs h0):j9 NC (mkW h0 w os src on sz ok) where
 pat p m:=by
  refine eE1 (fun q=>aA2 fun hq z40q2=>?_) (List.mem_map.mp m);obtain rfl:=z40q2
  exact⟨Fh O hq,au (aB Ap hq)⟩
 fr g:=rfl
 chk g params body scope h fd e1 e2 e3 e4 e5 e6 _:=⟨by rw[e1,e2,e3];exact h,e4,e5,e6⟩
end
theorem G5 (h:(a&&b&&c)=true):a=true∧b=true∧c=true:=⟨(aa (aa h).1).1,(aa (aa h).1).2,(aa h).2⟩
theorem EO (h:eqK a b=true):a=b:=by
 cases a<;>first | exact nf h | skip
 ·cases b<;>first | exact nf h | exact congrArg Const.int (au h)
 ·cases b<;>first | exact nf h | exact congrArg Const.str (au h)
theorem yH (hf:∀ a b,f a b=true→a=b):∀ {m:List Expr},eqL f l m=true→l=m:=by
 induction l with
 | nil=>intro m h;exact(List.isEmpty_iff.mp h).symm
 | cons a l ih=>intro m h;cases m with
  | nil=>exact nf h
  | cons b m=>rw[hf _ _ (aa h).1,ih (aa h).2]
theorem eh {P:Prop}{c a b:Bool}(h:(bif c then a else b)=true)(f:c=true→a=true→P)(g:c=false→b=true→P):P:=by
 cases c with
 | true=>exact f rfl h
 | false=>exact g rfl h
theorem kX {a b:Expr}{n:Nat}(h:Nat.beq (ev a).t (ev b).t=true)(q:Nat.beq (ev a).t n=true)(e:evb n (ev a) a=evb n (ev b) b):a=b :=
 (evI q).symm.trans (e.trans (evI (aD h▸q)))
theorem Eh {n:Nat}:∀ {a b:Expr},eqE n a b=true→a=b:=by
 induction n with
 | zero=>exact fun h=>nf h
 | succ n ih =>
  intro a b h
  obtain⟨ht,h⟩:=aa h
  obtain⟨hp,h⟩:=aa h
  have hp:=au hp
  refine bC fun G=>?_
  refine eh h (fun q h=>?_) fun U h=>eh h (fun q h=>?_) fun U h=>eh h (fun q h=>?_) fun U h=>eh h (fun q h=>?_) fun U h=>eh h (fun q h=>?_) fun U h=>ft h
  ·have e:Expr.Name (ev a).n (ev a).p = .Name (ev b).n (ev b).p:=by rw[au h,hp]
   exact G (kX ht q e)
  ·obtain⟨h1,h⟩:=aa h
   obtain⟨h2,h3⟩:=aa h
   obtain⟨h5,h6⟩:=aa h3
   have e:Expr.Call (ev a).a (ev a).l (ev a).ks (ev a).p = .Call (ev b).a (ev b).l (ev b).ks (ev b).p:=by rw[ih h1,yH (fun U U=>ih) h2,List.isEmpty_iff.mp h5,List.isEmpty_iff.mp h6,hp]
   exact G (kX ht q e)
  ·obtain⟨h1,h2⟩:=aa h
   have e:Expr.Attribute (ev a).a (ev a).n (ev a).p = .Attribute (ev b).a (ev b).n (ev b).p:=by rw[ih h1,au h2,hp]
   exact G (kX ht q e)
  ·obtain⟨h1,h2⟩:=aa h
   have e:Expr.Constant (ev a).c (ev a).k (ev a).p = .Constant (ev b).c (ev b).k (ev b).p:=by rw[EO h1,au h2,hp]
   exact G (kX ht q e)
  ·obtain⟨h1,h2⟩:=aa h
   have e:Expr.Tuple (ev a).l (ev a).k (ev a).p = .Tuple (ev b).l (ev b).k (ev b).p:=by rw[yH (fun U U=>ih) h1,au h2,hp]
   exact G (kX ht q e)
theorem Ba:lkP a b l=some v→((a,b),v)∈l:=by
 induction l with
 | nil=>exact fun e=>nomatch e
 | cons p r ih =>
  intro e
  obtain⟨⟨x,y⟩,u⟩:=p
  have e:(bif Nat.beq x a&&Nat.beq y b then some u else lkP a b r)=some v:=e
  cases q:Nat.beq x a&&Nat.beq y b with
  | true =>
   rw[q] at e
   obtain⟨q1,q2⟩:=aa q
   rw[aD q1,aD q2,ab e];exact .head _
  | false=>rw[q] at e;exact .tail _ (ih e)
theorem z8:HT.all (fun x=>(ownOf x.2.2).isEmpty)=true:=by kernel_rfl
structure DG (X:Cx)(sc:Sc)(hid:Nat)(free:List Str)(df:List Vl)(t:Txt)(ns nc:Nat)(ps:List CT)(df':List Vl)(b:CS):Prop where
 c:fY hid t.scope free=true
 p:fg t.params=true
 l:df.length≤t.params.args.length
 ps:cPs sc (t.params.args.map (·.arg))=some ps
 b:nj X NC 40 sc t.body=some b
 ns:(aP hid t.scope).length=ns
 nc:(ownOf t.scope).length=nc
 d:df=df'
theorem sO {X:Cx}{sc:Sc}{hid:Nat}{free:List Str}{df:List Vl}{t:Txt}{ns nc:Nat}{ps:List CT}{df':List Vl}{b:CS}(h:iF X sc hid free df t=some (.mk ns nc ps df' b)):DG X sc hid free df t ns nc ps df' b:=by
 obtain⟨q,h⟩:=qd h
 refine aA3 (fun q1 q2 q3=>?_) (G5 q)
 refine eE1 (fun ps'=>aA2 fun h1 h=>?_) (Option.bind_eq_some_iff.mp h)
 refine eE1 (fun b'=>aA2 fun h2 h=>?_) (aC h)
 replace h:=Internal.Fd.mk.inj h;obtain⟨rfl,rfl,rfl,rfl,rfl⟩:=h
 exact⟨q1,q2,bS q3,h1,h2,rfl,rfl,rfl⟩
section
variable {h0:Heap}{w:World}{os:OsState}{src:Addr}{on:Option Obj}{sz:List Nat}{ok:(∀ z∈sz,1≤z∧z≤4)∧sz.length≤8}
theorem Bt {fd:FuncData}{df:List Vl}(h:jA (KH h0) fd.defaults df=true)(ι:Io)(s:Shared)(hin:(mkW h0 w os src on sz ok).K.In s.heap)(hf:∀ b,Own (mkW h0 w os src on sz ok) ι b→(mkW h0 w os src on sz ok).base.get? b=none) :
  ∃ od ds,(∀ (A:Around)(E:Value→Shared→Prop)(Q:Option (Array Value)→Shared→Prop),Q od s→wpAny (model (mkW h0 w os src on sz ok).prog (mkW h0 w os src on sz ok).w) A (seqItems? fd.defaults) Q E s)∧(od.getD #[]).toList=ds∧RVs (mkW h0 w os src on sz ok) ι s.heap ds df:=by
 cases df with
 | nil=>exact dW (au h) ι s
 | cons x r =>
  refine bC fun G=>?_;refine eE1 (fun T=>aA2 fun hT h=>?_) (any_some h)
  refine eE1 (fun vs=>aA2 fun hv h=>?_) (any_some h)
  obtain⟨nn,hl⟩:=kz hv
  apply G;refine⟨some vs,vs.toList,fun A E Q q=>?_,rfl,td (mP (constOk hin hf) 6) _ _ h⟩
  rw[ou hT]
  exact wpAny_seqItems (hin _ _ hl) rfl q
theorem AW (O:Obs h0)(hr:∀ p∈eQ,iL XC p.1=fns.get p.1)(hl:∀ p∈ui,nO XC p.2=fns.get p.2)(hn:fnL.all (fun p=>(lkN p.1 eQ).isSome||(fns.get p.1).isNone)=true):nZ (mkW h0 w os src on sz ok) fns where
 fn i a ns nc ps df b hf hg:=by
  have hi:=aB hn (bH hf)
  rw[hg,Option.isNone_some,Bool.or_false] at hi
  refine bC fun G=>?_;obtain⟨p,hp0⟩:=some_of hi
  have hp:=bH hp0
  have hread:=(hr _ hp).trans hg
  refine eE1 (fun a'=>aA2 fun ha k=>?_) (any_some (aB O.fns hp))
  rw[show lkN i fnL=some a from hf] at ha;replace ha:=ab ha;subst ha
  refine eE1 (fun fd=>aA2 fun hfd k=>?_) (any_some k)
  obtain⟨k1,k⟩:=aa k
  obtain⟨k2,k3⟩:=aa k
  refine eE3 (fun oc od osl e=>?_) (jC hfd)
  have P:=mw k1
  refine eE1 (fun t=>aA2 fun ht hread=>?_) (Option.bind_eq_some_iff.mp hread)
  have hm:((lkN i fnL).getD 0,p.1,p.2)∈pY:=List.mem_append.mpr (.inr (List.mem_map.mpr ⟨_,hp,rfl⟩))
  have htx:=O.t _ hm
  rw[show lkN i fnL=some a from hf] at htx
  have htx:tx h0 a=kA p.1 p.2:=htx
  unfold tx at htx
  rw[e] at htx
  have ht:((lkN i eQ).bind fun p=>kA p.1 p.2)=some t:=ht
  rw[hp0] at ht
  obtain rfl:uf fd=t:=ab (htx.trans ht)
  have hsc:jr i fd.scope=bI (dP i) (lkN i uY).isSome fd.scope fd.code fd.qualname []:=by
   unfold jr
   cases q:lkN i uY with
   | none=>rfl
   | some u =>
    have k3:(@Option.rec (Nat × Nat) (fun U=>Bool) true (xB fd) (lkN i uY))=true:=k3
    rw[q] at k3
    obtain⟨j1,j2⟩:=aa k3
    rw[au j1,au j2]
    rfl
  have R:=sO hread
  have hs0:(uf fd).scope=fd.scope:=rfl
  rw[hs0,hsc] at R
  obtain⟨r1,r2,r3,r4,r5,r6,r7,r8⟩:=R
  subst r6 r7 r8
  have hpn:(fd.params.args.map (·.arg)).length=fd.params.args.length:=List.length_map _
  apply G;exact⟨oc,od,fd,osl,_,_,_,e,P.code,yR r1 r2 P.gl P.bi r4 (by rw[hpn];exact r3) (.inr P.cL) (fun ι s=>Bt k2 ι s) (ki (xE O) pF (xx O) (rX O) (qf r1) r5)⟩
 cL g fd ns nc ps df b hc hg:=by
  revert hc;refine aA4 fun hc c1 c2 c3=>?_
  refine eE1 (fun x=>aA2 fun hx hc=>?_) (any_some hc)
  obtain⟨hc,d4⟩:=aa hc
  refine aA3 (fun d1 d2 d3=>?_) (G5 hc)
  obtain⟨d4,d7⟩:=aa d4
  obtain⟨d5,d6⟩:=aa d4
  have hxg:=List.find?_some hx
  have hgl:=Ba (au hxg)
  have hread:=(hl _ hgl).trans hg
  have hread:((xX g).bind fun x=>iF XC (bI 0 false x.2.2 .none (aJ 0) (mW g)) 0 (mW g) [] ⟨⟨[],[],none,[],[],none,[]⟩,.expr x.2.1,x.2.2⟩)=_:=hread
  rw[hx] at hread
  obtain⟨r1,r2,r3,r4,r5,r6,r7,r8⟩:=sO hread
  have hnm:fd.scope.names=x.2.2.names:=au d3
  obtain⟨d8,d9⟩:=aa d1
  have hargs:=List.isEmpty_iff.mp d8
  have hloc:aP 0 fd.scope=aP 0 x.2.2:=by unfold aP;rw[hnm]
  have hown:ownOf fd.scope=ownOf x.2.2:=by unfold ownOf;rw[hnm]
  have hsc:bI 0 false fd.scope fd.code fd.qualname (mW g)=bI 0 false x.2.2 .none (aJ 0) (mW g):=by unfold bI;rw[hloc,hown,hnm];rfl
  have hchk:fY 0 fd.scope (mW g)=true:=by
   unfold fY at r1 ⊢
   rw[hloc,hown,hnm]
   simp only[Bool.and_eq_true] at r1 ⊢
   exact⟨⟨⟨⟨⟨⟨d5,d6⟩,d7⟩,r1.1.1.1.2⟩,r1.1.1.2⟩,r1.1.2⟩,r1.2⟩
  subst r6 r7 r8
  have hbody:∃ e,fd.body = .expr e∧eqE 9 e x.2.1=true:=by
   revert d2
   cases fd.body with
   | expr e=>exact fun d2=>⟨e,rfl,d2⟩
   | stmts _=>exact fun d2=>nf d2
  revert hbody;refine eE1 fun e=>aA2 fun hb he=>?_
  rw[← Eh he,← hb,← hsc] at r5
  rw[← hsc] at r4
  have hpn:fd.params.args.map (·.arg)=[]:=by rw[hargs];rfl
  have hown0:ownOf fd.scope=[]:=hown.trans (List.isEmpty_iff.mp (aB z8 (List.mem_of_find?_eq_some hx)))
  have E:=yR (W:=mkW h0 w os src on sz ok) (top:=false) (df:=[]) (ps:=ps) hchk d9 c1 c2 (by rw[hpn];exact r4) (Nat.zero_le _) (.inl hown0) (fun ι s U U=>dW c3 ι s) (ki (xE O) pF (xx O) (rX O) (qf hchk) r5)
  rw[hloc,hown] at E
  rw[← hown,hown0] at E ⊢
  exact⟨_,_,E⟩
end
theorem oP:eQ.map (fun p=>iL XC p.1)=eQ.map (fun p=>fns.get p.1):=by kernel_rfl
theorem vi:ui.map (fun p=>nO XC p.2)=ui.map (fun p=>fns.get p.2):=by kernel_rfl
theorem uZ:fnL.all (fun p=>(lkN p.1 eQ).isSome||(fns.get p.1).isNone)=true:=by kernel_rfl
section
variable {h0:Heap}{w:World}{os:OsState}{src:Addr}{on:Option Obj}{sz:List Nat}{ok:(∀ z∈sz,1≤z∧z≤4)∧sz.length≤8}
theorem Fe (O:Obs h0):nZ (mkW h0 w os src on sz ok) fns:=AW O (List.map_inj_left.mp oP) (List.map_inj_left.mp vi) uZ
theorem sV (O:Obs h0)(d:Nat):lT (mkW h0 w os src on sz ok) (cM fns d) d:=qp (Fe O) d
end
noncomputable def I0:Io:=fun U=>none
theorem kL (o:Own W I0 b):b=W.src:=o.elim id fun⟨_,_,e,_⟩=>nomatch e
theorem St.into (S:St W fs ι H s)(e1:W'.K=W.K)(e2:W'.base=W.base)(e3:W'.os=W.os)(e4:W'.tabs=W.tabs)(e5:W'.qual=W.qual)(g:s.heap.get? W'.src=some o)(hs:Br W' o)
  (hn:W.base.get? W'.src=none)(hf:W'.src∉frs fs):St W' fs I0 H0 s where
 bo:=by rw[e1,e2];exact S.bo
 bp:=by rw[e2];exact S.bp
 mods:=by rw[e2];exact S.mods
 ground:=by rw[e1];exact S.ground
 old:=by rw[e2];exact S.old
 lim:=S.lim
 frames:=by rw[e2];exact S.frames
 frd:=S.frd
 live k o e:=nomatch e
 dom k p e:=nomatch e
 apart k k' p p' e:=nomatch e
 fresh b ob:=by rw[kL ob,e2];exact⟨hn,hf⟩
 aF k p e:=nomatch e
 src:=⟨o,g,hs⟩
 gens:=S.gens
 os:=S.os.trans e3.symm
 tabs P m:=by
  rw[e4] at m
  refine eE1 (fun ps=>aA4 fun b h t c=>?_) (S.tabs P m)
  refine⟨ps,by rw[e2];exact b,h,t,fun pos cv e=>?_⟩
  obtain⟨c',oc,vs,tk,q1,q2,q3,q4,q5,q6⟩:=c pos cv e
  exact⟨c',oc,vs,tk,q1,q2,q3,q4,by rw[e5];exact q5,fun ow=>by rw[kL ow,g] at q2;replace q2:=ab q2;subst q2;exact hs.1 q3⟩
section
variable {h0:Heap}{w:World}{os:OsState}{src:Addr}{on:Option Obj}{sz:List Nat}{ok:(∀ z∈sz,1≤z∧z≤4)∧sz.length≤8}
theorem zP (O:Obs h0)(k:∀ b o,h0.get? b=some o→s.heap.get? b=some o)(hg:s.gens=#[])(ho:s.os=os)(g:s.heap.get? src=some o)(hs:Br (mkW h0 w os src on sz ok) o)(hn:h0.get? src=none):St (mkW h0 w os src on sz ok) [] I0 H0 s where
 bo:=mV _ _
 bp:=(fR O.base).lim
 mods:=(fR O.base).mods
 ground a o e:=k _ _ (mV _ _ a o e)
 old:=OldK.of_keep k
 lim:=let ⟨mc,a,b⟩:=(fR O.base).lim;⟨mc,a.keeps k,b⟩
 frames:=trivial
 frd L m:=nomatch m
 live k o e:=nomatch e
 dom k p e:=nomatch e
 apart k k' p p' e:=nomatch e
 fresh b ob:=by rw[kL ob];exact⟨hn,fun m=>nomatch m⟩
 aF k p e:=nomatch e
 src:=⟨o,g,hs⟩
 gens:=hg
 os:=ho
 tabs P m:=by
  revert m;refine eE1 fun p=>aA2 fun mp z3q2=>?_;obtain rfl:=z3q2
  refine aA3 (fun U t2 U=>?_) (wF (aB O.tabs mp))
  exact⟨#[],⟨_,t2⟩,k _ _ t2,trivial,fun pos cv e=>nomatch e⟩
end
section
def FD (o:Option Ob):Bool:=@Option.rec Ob (fun U=>Bool) true (fun o=>(aW (oCell false (fun U=>true) o) (fun U=>true) o)) o
def Ia (t:Tri Ob):Bool:=@Tri.rec Ob (fun U=>Bool) true (fun o U U a b=>FD o&&(a&&b)) t
def rq (h:Hp):Bool:=Ia h.t
end
theorem qy (h:Ia t=true):∀ k,FD (t.get k)=true:=by
 induction t with
 | nil=>exact fun U=>rfl
 | node o l r ihl ihr =>
  obtain⟨h1,h⟩:=aa h
  obtain⟨h2,h3⟩:=aa h
  intro k
  show FD (@Bool.rec (fun U=>Option Ob) (@Bool.rec (fun U=>Option Ob) (r.get (Nat.sub (Nat.div k 2) 1)) (l.get (Nat.div k 2)) (Nat.beq (Nat.mod k 2) 1)) o (Nat.beq k 0))=true
  cases Nat.beq k 0 with
  | true=>exact h1
  | false=>cases Nat.beq (Nat.mod k 2) 1 with
   | true=>exact ihl h2 _
   | false=>exact ihr h3 _
section
variable {h0:Heap}{w:World}{os:OsState}{src src':Addr}{on on':Option Obj}{sz sz':List Nat}{ok:(∀ z∈sz,1≤z∧z≤4)∧sz.length≤8}{ok':(∀ z∈sz',1≤z∧z≤4)∧sz'.length≤8}{fs:List Env}{ι ι0 ι':Io}{H H':Hp}{s s':Shared}{X:Addr→Prop}
theorem vF (E:Ext (mkW h0 w os src' on' sz' ok') noX ι0 s.heap ι' s'.heap)(hi:∀ b,Own (mkW h0 w os src' on' sz' ok') ι0 b→Own (mkW h0 w os src on sz ok) ι b∨X b)(hx:∀ b o,s.heap.get? b=some o→TC o→¬ X b):Ext (mkW h0 w os src on sz ok) X ι s.heap ι s'.heap :=
 ⟨Sub.refl _,fun b o g c d no=>⟨(E.tk b o g c d fun z=>(hi b z).elim no (hx b o g c)).1,no⟩,fun b o g c no nx=>E.keep b o g c (fun z=>(hi b z).elim no nx) id,E.dom,fun b z=>.inl z⟩
theorem ig (E:Ext (mkW h0 w os src' on' sz' ok') noX ι0 s.heap ι' s'.heap)(hi:∀ b,Own (mkW h0 w os src' on' sz' ok') ι0 b→Own (mkW h0 w os src on sz ok) ι b):Ext (mkW h0 w os src on sz ok) noX ι s.heap ι s'.heap :=
 vF E (fun b z=>.inl (hi b z)) fun U U U U z=>z
theorem St.C5 (S:St (mkW h0 w os src on sz ok) fs ι H s)(S':St (mkW h0 w os src' on' sz' ok') fs ι' H' s')(hs:∃ o,s'.heap.get? src=some o∧Br (mkW h0 w os src on sz ok) o)(hp:rq H=true)(hro:∀ k p o,ι k=some p→H.t.get k=some o→RO (mkW h0 w os src on sz ok) ι s'.heap p o):St (mkW h0 w os src on sz ok) fs ι H s' where
 bo:=S'.bo
 bp:=S'.bp
 mods:=S'.mods
 ground:=S'.ground
 old:=S'.old
 lim:=S'.lim
 frames:=S'.frames
 frd:=S'.frd
 live k o e:=by
  refine eE1 (fun p=>aA2 fun hp U=>?_) (S.live k o e)
  exact⟨p,hp,hro k p o hp e⟩
 dom:=S.dom
 apart:=S.apart
 fresh:=S.fresh
 aF:=S.aF
 src:=⟨hs⟩
 gens:=S'.gens
 os:=S'.os
 tabs P m:=by
  refine eE1 (fun ps=>aA4 fun b g t c=>?_) (S'.tabs P m)
  refine⟨ps,b,g,t,fun pos cv e=>?_⟩
  obtain⟨c',oc,vs,tk,q1,q2,q3,q4,q5,q6⟩:=c pos cv e
  refine⟨c',oc,vs,tk,q1,q2,q3,q4,q5,fun ow=>?_⟩
  revert ow;refine oO (fun z=>?_) (eE2 fun k p=>aA2 fun e z=>?_)
  ·revert hs;refine eE1 fun o=>aA3 fun g r U=>?_
   rw[show c'=src from z,g] at q2
   replace q2:=ab q2;subst q2
   exact r q3
  ·refine aA2 (fun U=>eE1 fun o go=>?_) (S.dom k p e)
   have r:=hro k p o e go
   have l:=qy hp k
   rw[go] at l
   cases o<;>first | exact nf l | skip
   ·obtain⟨pe,_,_,_,g,_⟩:=r
    rw[pe,or_self] at z
    rw[z,g] at q2;replace q2:=ab q2;subst q2;injection q3 with q3;exact absurd q3 (by decide)
   ·obtain⟨pe,x,_,g,c,_⟩:=r
    rw[pe,or_self] at z
    rw[z,g] at q2;replace q2:=ab q2;subst q2;rw[c] at q3;injection q3 with q3;exact absurd q3 (by decide)
theorem pG (S:St (mkW h0 w os src on sz ok) fs ι H s)(E:Ext (mkW h0 w os src' on' sz' ok') noX ι0 s.heap ι' s'.heap)(E1:Ext (mkW h0 w os src on sz ok) X ι s.heap ι s'.heap)(hp:rq H=true)(e:ι k=some p)(g:H.t.get k=some o)(no:¬ Own (mkW h0 w os src' on' sz' ok') ι0 p.1) :
  RO (mkW h0 w os src on sz ok) ι s'.heap p o:=by
 have r:=S.ro e g
 have l:=qy hp k
 rw[g] at l
 have bn:(mkW h0 w os src' on' sz' ok').base.get? p.1=none:=(S.fresh p.1 (.inr ⟨k,p,e,.inl rfl⟩)).1
 cases o<;>first | exact nf l | skip
 ·obtain⟨pe,ln,vs,n,g,rv⟩:=r
  refine eE1 (fun sl=>aA2 fun g' hs=>?_) (E.keep _ _ g (.inr bn) no id)
  rw[hs (fun U U z=>nomatch z)] at g'
  exact⟨pe,ln,vs,n,g',rv.ext E1⟩
 ·obtain⟨pe,x,ov,g,c,d,rv⟩:=r
  refine eE1 (fun sl=>aA2 fun g' hs=>?_) (E.keep _ _ g (.inr bn) no id)
  rw[hs (fun U U z=>by rw[d] at z;injection z)] at g'
  exact⟨pe,x,ov,g',c,d,rv.imp id fun⟨y,a,b⟩=>⟨y,a,b.ext E1⟩⟩
end
section
noncomputable def GN (v:Vl):Option Nat:=match v with
 | .int (.ofNat z)=>some z
 | _=>none
def xg (l:List Vl):Option (List Nat):=@List.rec Vl (fun U=>Option (List Nat)) (some []) (fun v U ih=>(GN v).bind fun z=>ih.map (z :: ·)) l
noncomputable def Dl (z:List Nat):Bool:=z.all (fun z=>Nat.ble 1 z&&Nat.ble z 4)&&(Nat.ble 1 z.length&&Nat.ble z.length 8)
noncomputable def yt (l:List Vl):Bool:=match l with
 | [.src]=>true
 | _=>false
noncomputable def Ex (o:Ob):Option (List Vl):=match o with
 | .list m=>some m
 | _=>none
def tQ (l:List Vl)(h:Hp):Bool:=match l with
 | [.ref j]=>(h.t.get j).any fun o=>(Ex o).any fun m=>(xg m).any Dl
 | _=>false
noncomputable def jD:List Nat:=[114,115,116,117,118]
def xF (i:Nat)(l:List Vl)(h:Hp):Bool:=bif nin i jD then yt l else bif Nat.beq i 119 then tQ l h else false
def rcK (i:Nat)(l:List Vl)(h:Hp)(k:KV):Bool:=rq h&&(xF i l h&&k (.bool true) h)
def rc:Rt:=fun v l h k U=>match v with
 | .fn i=>rcK i l h k
 | _=>false
noncomputable def noE (_:Nat)(_:Hp):Bool:=false
end
structure Runs:Prop where
 c:∀ i,nin i jD=true→cM fns 60 (.fn i) [.src] H0 isT (fun _ _=>false)=true
 w:∀ w n,w≤1→1≤n→n≤8→(w=1→5≤n)→cM fns 60 (.fn 119) [.ref 0] (yp w n) (ER w n) (fun _ _=>false)=true
set_option tactic.hygienic true in
theorem AX (h:GN v=some z):v = .int (.ofNat z):=by
 cases v<;>first | exact nf h | exact ns h | skip
 rename_i i
 cases i<;>first | exact ns h | skip
 replace h:=ab h;subst h;rfl
theorem v8:∀ {z:List Nat},xg l=some z→l=z.map fun z=>.int (.ofNat z):=by
 induction l with
 | nil=>intro z h;replace h:=ab h;subst h;rfl
 | cons v r ih =>
  intro z h
  refine eE1 (fun a=>aA2 fun ha h=>?_) (Option.bind_eq_some_iff.mp h)
  refine eE1 (fun b=>aA2 fun hb z2q2=>?_) (aC h);obtain rfl:=z2q2
  rw[AX ha,ih hb];rfl
theorem sN (f:Nat→Vl):∀ (n:Nat)(a:List Vl),(@Nat.rec (fun U=>List Vl→List Vl) (fun a=>a) (fun m ih a=>ih (f m :: a)) n:List Vl→List Vl) a=(List.range n).map f++a
 | 0,a=>rfl
 | n+1,a=>by
  show(@Nat.rec (fun U=>List Vl→List Vl) (fun a=>a) (fun m ih a=>ih (f m :: a)) n:List Vl→List Vl) (f n :: a)=_
  rw[sN f n,List.range_succ,List.map_append,List.append_assoc];rfl
theorem tE (w n:Nat):uJ w n=(List.range n).map fun j=>.sy 0 w n j:=(sN _ n []).trans (List.append_nil _)
section
variable {W:Wd}{ι:Io}{h:Heap}
theorem Ek:∀ {xs:List Vl},vs.length=xs.length→(∀ (i:Nat) v x,vs[i]? = some v→xs[i]? = some x→RV W ι h v x)→RVs W ι h vs xs:=by
 induction vs with
 | nil=>intro xs l _;cases xs with
  | nil=>exact .nil
  | cons _ _=>injection l
 | cons v vs ih=>intro xs l g;cases xs with
  | nil=>injection l
  | cons x xs=>exact .cons (g 0 v x rfl rfl) (ih (Nat.succ.inj l) fun i v x a b=>g (i+1) v x a b)
theorem B4 (hz:W.bJ=z)(r:RVs W ι h vs (z.map fun z=>.int (.ofNat z))):RVs W ι h vs (uJ (if 256 < z.foldl (· * ·) 1 then 1 else 0) z.length):=by
 rw[tE]
 refine Ek (by rw[r.length];simp) fun i v x hv hx=>?_
 rw[List.getElem?_map] at hx
 refine eE1 (fun j=>aA2 fun hj z3q2=>?_) (aC hx);obtain rfl:=z3q2
 obtain⟨lt,rfl⟩:i < z.length∧i=j:=by
  by_cases q:i < z.length
  ·rw[List.getElem?_range q] at hj;exact⟨q,ab hj⟩
  ·rw[List.getElem?_eq_none (by simpa using q)] at hj;exact zns hj
 refine eE1 (fun v'=>aA2 fun hv' rv=>?_) (r.get (i:=i) (x:=.int (.ofNat z[i])) (by rw[List.getElem?_map,List.getElem?_eq_getElem lt];rfl))
 rw[hv] at hv';replace hv':=ab hv';subst hv'
 refine .sy (x:=.int (.ofNat z[i])) ?_ rv
 unfold cw
 rw[hz,if_pos ⟨rfl,rfl⟩,if_neg (by decide),if_pos (by decide),List.getElem?_eq_getElem lt]
 rfl
theorem BX (hz:W.bJ=z)(r:RVs W ι h vs (uJ w z.length)):∃ ts:List Tok,vs=(z.zip ts).map (fun p=>Value.int (.ofNat p.1) p.2)∧ts.length=z.length:=by
 rw[tE] at r
 have l:=r.length
 rw[List.length_map,List.length_range] at l
 have key:∀ (i:Nat)(lt:i < z.length),∃ t,vs[i]? = some (Value.int (.ofNat z[i]) t):=fun i lt=>by
  refine eE1 (fun v=>aA2 fun hv rv=>?_) (r.get (i:=i) (x:=.sy 0 w z.length i) (by rw[List.getElem?_map,List.getElem?_range lt];rfl))
  refine eE1 (fun U=>aA2 fun e rx=>?_) (rv.inv);next =>
   unfold cw at e
   rw[hz] at e
   by_cases q:z.length=z.length∧w=(if 256 < z.foldl (· * ·) 1 then 1 else 0)
   ·rw[if_pos q,if_neg (by decide),if_pos (by decide),List.getElem?_eq_getElem lt] at e
    replace e:=ab e;subst e
    obtain⟨_,rfl⟩:=rx.inv
    exact⟨_,hv⟩
   ·rw[if_neg q] at e;exact zns e
 clear r hz
 induction z generalizing vs with
 | nil=>cases vs with
  | nil=>exact⟨[],rfl,rfl⟩
  | cons _ _=>injection l
 | cons a z ih =>
  cases vs with
  | nil=>injection l
  | cons v vs =>
   refine bC fun G=>?_;obtain⟨t,ht⟩:=key 0 (Nat.succ_pos _)
   refine eE1 (fun ts=>aA2 fun e lt=>?_) (ih (Nat.succ.inj l) fun i lt=>key (i+1) (Nat.succ_lt_succ lt))
   apply G;exact⟨t :: ts,by rw[ab ht,e];rfl,congrArg Nat.succ lt⟩
end
noncomputable def io1 (p:Addr × Addr):Io:=fun k=>match k with
 | 0=>some p
 | _=>none
theorem kh {p q:Addr × Addr}{k:Nat}(h:io1 p k=some q):k=0∧q=p:=by
 cases k with
 | zero=>exact⟨rfl,(ab h).symm⟩
 | succ _=>exact zns h
theorem DC (h:(one o).t.get k=some o'):k=0∧o'=o:=by
 cases k with
 | zero=>exact⟨rfl,(ab h).symm⟩
 | succ k =>
  have h:(@Bool.rec (fun U=>Option Ob) (@Bool.rec (fun U=>Option Ob) none none (Nat.beq (Nat.mod (k+1) 2) 1)) (some o) false)=some o':=h
  revert h
  cases Nat.beq (Nat.mod (k+1) 2) 1<;>intro h<;>exact zns h
theorem pP (o:Own W (io1 p) b):b=W.src∨b=p.1∨b=p.2:=o.imp id fun⟨k,q,e,z⟩=>by obtain⟨_,rfl⟩:=kh e;exact z
section
variable {W:Wd}{fs:List Env}{s:Shared}{p:Addr × Addr}{o:Ob}
theorem St.own (S:St W fs I0 H0 s)(r:RO W (io1 p) s.heap p o)(e2:p.2=p.1){x:Obj}(g:s.heap.get? p.1=some x)(hc:x.cls≠.type "code")(hn:W.base.get? p.1=none)(hf:p.1∉frs fs)(hs:p.1≠W.src):St W fs (io1 p) (one o) s where
 bo:=S.bo
 bp:=S.bp
 mods:=S.mods
 ground:=S.ground
 old:=S.old
 lim:=S.lim
 frames:=S.frames
 frd:=S.frd
 live k o' e:=by
  obtain⟨rfl,rfl⟩:=DC e
  exact⟨p,rfl,r⟩
 dom k q e:=by
  obtain⟨rfl,rfl⟩:=kh e
  exact⟨Nat.zero_lt_one,o,rfl⟩
 apart k k' q q' e e' ne:=by
  obtain⟨rfl,_⟩:=kh e
  obtain⟨rfl,_⟩:=kh e'
  exact absurd rfl ne
 fresh b ob:=by
  rcases pP ob with z | z | z
  ·exact S.fresh b (.inl z)
  ·rw[z];exact⟨hn,hf⟩
  ·rw[z,e2];exact⟨hn,hf⟩
 aF k q e:=by
  obtain⟨_,rfl⟩:=kh e
  rw[e2];exact⟨hs,hs⟩
 src:=S.src
 gens:=S.gens
 os:=S.os
 tabs P m:=by
  refine eE1 (fun ps=>aA4 fun b h t c=>?_) (S.tabs P m)
  refine⟨ps,b,h,t,fun pos cv e=>?_⟩
  obtain⟨c',oc,vs,tk,q1,q2,q3,q4,q5,q6⟩:=c pos cv e
  refine⟨c',oc,vs,tk,q1,q2,q3,q4,q5,fun ow=>?_⟩
  rcases pP ow with z | z | z
  ·exact q6 (.inl z)
  ·rw[z,g] at q2;replace q2:=ab q2;subst q2;exact hc q3
  ·rw[z,e2,g] at q2;replace q2:=ab q2;subst q2;exact hc q3
end
section
variable {h0:Heap}{w:World}{os:OsState}{src:Addr}{on:Option Obj}{sz:List Nat}{ok:(∀ z∈sz,1≤z∧z≤4)∧sz.length≤8}
theorem zG (h:Dl z=true):((∀ x∈z,1≤x∧x≤4)∧z.length≤8)∧1≤z.length:=by
 refine bC fun G=>?_;obtain⟨h1,h2⟩:=aa h
 obtain⟨h2,h3⟩:=aa h2
 apply G;refine⟨⟨fun x m=>?_,bS h3⟩,bS h2⟩
 obtain⟨a,b⟩:=aa (aB h1 m)
 exact⟨bS a,bS b⟩
theorem wa {z:List Nat}(h:∀ x∈z,1≤x∧x≤4):(if 256 < z.foldl (· * ·) 1 then 1 else 0)=1→5≤z.length:=by
 intro e
 by_cases q:256 < z.foldl (· * ·) 1
 ·have key:∀ (z:List Nat)(a:Nat),(∀ x∈z,1≤x∧x≤4)→z.foldl (· * ·) a≤a * 4 ^ z.length:=by
   intro z
   induction z with
   | nil=>intro a _;simp
   | cons x z ih =>
    intro a h
    have h1:=ih (a * x) fun y m=>h y (.tail _ m)
    have h2:=(h x (.head _)).2
    rw[List.foldl_cons,List.length_cons,Nat.pow_succ]
    calc _≤a * x * 4 ^ z.length:=h1
     _≤a * 4 * 4 ^ z.length:=Nat.mul_le_mul_right _ (Nat.mul_le_mul_left _ h2)
     _=a * (4 ^ z.length * 4):=by rw[Nat.mul_assoc,Nat.mul_comm 4]
  have:=key z 1 h
  rw[Nat.one_mul] at this
  by_cases l:5≤z.length
  ·exact l
  ·have:4 ^ z.length≤4 ^ 4:=Nat.pow_le_pow_right (by decide) (fS (Nat.lt_of_not_le l) (by simp +arith only))
   omega
 ·rw[if_neg q] at e;injection e
theorem nA (r:RV W ι h v x)(t:ifV x true false=true):v = .bool true:=by
 rcases hH t with ⟨rfl,_⟩| ⟨_,z⟩
 ·exact r.inv
 ·exact nf z
theorem Aw (h:Ex o=some m):o = .list m:=by
 cases o<;>first | (cases h;rfl)| exact zns h
theorem y7 (h:tQ xs H=true):∃ j o m z,xs=[.ref j]∧H.t.get j=some o∧Ex o=some m∧xg m=some z∧Dl z=true:=by
 unfold tQ at h
 split at h
 ·refine bC fun G=>?_;refine eE1 (fun o=>aA2 fun h1 h=>?_) (any_some h)
  refine eE1 (fun m=>aA2 fun h2 h=>?_) (any_some h)
  refine eE1 (fun z=>aA2 fun h3 h=>?_) (any_some h)
  apply G;exact⟨_,o,m,z,rfl,h1,h2,h3,h⟩
 ·exact ft h
theorem zk:∀ {z:List Nat}{vs:List Value},RVs W ι h vs (z.map fun z=>.int (.ofNat z))→RVs W' ι' h' vs (z.map fun z=>.int (.ofNat z)):=by
 intro z
 induction z with
 | nil=>intro vs r;cases r;exact .nil
 | cons a z ih =>
  intro vs r
  cases r with
  | cons r1 r2=>obtain⟨t,rfl⟩:=r1.inv;next=>exact .cons (.int _ t) (ih r2)
theorem zN:∀ (z:List Nat)(ts:List Tok),ts.length=z.length→RVs W ι h ((z.zip ts).map fun p=>Value.int (.ofNat p.1) p.2) (z.map fun z=>.int (.ofNat z)):=by
 intro z
 induction z with
 | nil=>intro ts _;exact .nil
 | cons a z ih =>
  intro ts l
  cases ts with
  | nil=>injection l
  | cons t ts=>exact .cons (.int _ t) (ih ts (Nat.succ.inj l))
set_option tactic.hygienic true in
theorem Ci (O:Obs h0)(R:Runs):lT (mkW h0 w os src on sz ok) rc 60:=by
 intro A fs ι H s v x vs xs k e ar S rv rvs t
 refine bC fun G=>?_;cases x<;>first | exact nf t | skip
 rename_i i
 have t:rcK i xs H k=true:=t
 obtain⟨hp,t⟩:=aa t
 obtain⟨ha,tk⟩:=aa t
 obtain⟨⟨ob,gs,so⟩⟩:=S.src
 have fsr:=S.fresh src (.inl rfl)
 unfold xF at ha
 cases q1:nin i jD with
 | true =>
  rw[q1] at ha
  have hx:xs=[.src]:=by
   unfold yt at ha
   split at ha
   ·rfl
   ·exact ft ha
  subst hx
  have S0:St (mkW h0 w os src on sz ok) fs I0 H0 s:=S.into rfl rfl rfl rfl rfl gs so fsr.1 fsr.2
  have rv0:RV (mkW h0 w os src on sz ok) I0 s.heap v (.fn i):=by refine eE1 (fun _=>aA2 fun z19q1 e=>?_) (rv.inv);obtain rfl:=z19q1;exact .fn e
  have rvs0:RVs (mkW h0 w os src on sz ok) I0 s.heap vs [.src]:=by
   cases rvs with
   | cons r1 r2 =>
    cases r2
    obtain⟨rfl,e⟩:=r1.inv;next=>exact .cons (.src e) .nil
  apply G;refine codeAny_mono (sV O 60 A fs I0 H0 s v (.fn i) vs [.src] isT (fun _ _=>false) ar S0 rv0 rvs0 (R.c i q1)) fun q s' z=>Be z fun v' P=>?_
  refine bC fun G=>?_;obtain⟨ι',H',x',S',E',rv',t'⟩:=P
  obtain rfl:=nA rv' t'
  have hi:∀ b,Own (mkW h0 w os src on sz ok) I0 b→Own (mkW h0 w os src on sz ok) ι b:=fun b o=>.inl (kL o)
  apply G;refine⟨ι,H,.bool true,S.C5 S' S'.src.at_ hp fun k p o e g=>pG S E' (ig E' hi) hp e g fun z=>?_,ig E' hi,.bool _,tk⟩
  exact(S.aF k p e).1 (kL z)
 | false =>
  rw[q1] at ha
  have ha:(bif Nat.beq i 119 then tQ xs H else false)=true:=ha
  cases q2:Nat.beq i 119 with
  | false=>rw[q2] at ha;exact nf ha
  | true =>
   rw[q2] at ha
   obtain rfl:=aD q2
   refine eE4 (fun j o m z=>aA5 fun z24q4 hj hm hz hs=>?_) (y7 ha);obtain rfl:=z24q4
   obtain rfl:=Aw hm
   obtain rfl:=v8 hz
   obtain⟨hz,n1⟩:=zG hs
   cases rvs with
   | cons r1 r2 =>
    cases r2
    refine eE2 (fun _ _=>aA2 fun z28q2 e=>?_) (r1.inv);obtain rfl:=z28q2;apply G;next =>
     rename_i a d
     obtain⟨pe,ln,vs0,nn,gL,rvm⟩:=S.ro e hj
     obtain rfl:d=a:=pe
     have S0:St (mkW h0 w os src on z hz) fs I0 H0 s:=S.into rfl rfl rfl rfl rfl gs so fsr.1 fsr.2
     have fr:=S.fresh d (.inr ⟨j,_,e,.inl rfl⟩)
     have rs:RVs (mkW h0 w os src on z hz) (io1 (d,d)) s.heap vs0.toList (uJ (if 256 < z.foldl (· * ·) 1 then 1 else 0) z.length):=B4 rfl (zk rvm)
     have S1:=S0.own (p:=(d,d)) (o:=.list (uJ (if 256 < z.foldl (· * ·) 1 then 1 else 0) z.length)) ⟨rfl,by rw[← rs.length,rvm.length];exact ln,vs0,nn,gL,rs⟩ rfl gL (fun z=>by injection z with z;exact absurd z (by decide)) fr.1 fr.2 (S.aF _ _ e).1
     have rv0:RV (mkW h0 w os src on z hz) (io1 (d,d)) s.heap v (.fn 119):=by refine eE1 (fun _=>aA2 fun z30q1 e=>?_) (rv.inv);obtain rfl:=z30q1;exact .fn e
     refine codeAny_mono (sV (sz:=z) (ok:=hz) O 60 A fs (io1 (d,d)) (yp _ _) s v (.fn 119) [.ref d] [.ref 0] (ER _ _) (fun _ _=>false) ar S1 rv0 (.cons (.ref (d:=d) rfl) .nil) (R.w (if 256 < z.foldl (· * ·) 1 then 1 else 0) z.length (by split<;>decide) n1 hz.2 (wa hz.1))) fun q s' zz=>Be zz fun v' P=>?_
     obtain⟨ι',H',x',S',E',rv',t'⟩:=P
     obtain⟨t1,t2⟩:=ai (c:=eV (yp _ _) H') t'
     obtain rfl:=nA rv' t2
     obtain⟨_,_,vs1,nn1,g1,rv1⟩:=S'.ro (E'.sub 0 (d,d) rfl) (cB t1 (k:=0) rfl)
     refine eE1 (fun ts=>aA2 fun hv lt=>?_) (BX rfl rv1)
     have hi:∀ b,Own (mkW h0 w os src on z hz) (io1 (d,d)) b→Own (mkW h0 w os src on sz ok) ι b:=fun b o=>by
      rcases pP o with y | y | y
      ·exact .inl y
      ·exact .inr ⟨j,_,e,.inl y⟩
      ·exact .inr ⟨j,_,e,.inr y⟩
     refine⟨ι,H,.bool true,S.C5 S' S'.src.at_ hp fun k p o e' g=>?_,ig E' hi,.bool _,tk⟩
     by_cases kj:k=j
     ·subst kj
      rw[e] at e';replace e':=ab e';subst e'
      rw[hj] at g;replace g:=ab g;subst g
      exact⟨rfl,ln,vs1,nn1,g1,by rw[hv];exact zN z ts lt⟩
     ·refine pG S E' (ig E' hi) hp e' g fun y=>?_
      rcases pP y with y | y | y
      ·exact(S.aF k p e').1 y
      ·exact(S.apart k j p _ e' e kj).1 y
      ·exact(S.apart k j p _ e' e kj).1 y
end
section
variable {W:Wd}{fs:List Env}{ι:Io}{H:Hp}{s:Shared}{env:Env}{M:Model}{A:Around}{E:Value→Shared→Prop}
theorem iJ (hk:env.scope.kind = .function)(hN:env.kindOf n=some .local)(S:St W fs ι H s)(nb:W.base.get? env.locals=none)(no:¬ Own W ι env.locals)(hm:s.heap.Ns env.locals m)
  (h:∀ s',St W fs ι H s'→Ext W (atL env) ι s.heap ι s'.heap→s'.heap.Ns env.locals (fun x=>if x=n then some v else m x)→(∀ b,b≠env.locals→s'.heap.get? b=s.heap.get? b)→Q () s'):wpAny M A (storeName env n v) Q E s:=by
 refine wpAny_storeName_local hN hm (fun h' hm' sb=>?_) (by rw[hk];rfl)
 refine bC fun G=>?_;refine eE3 (fun o' es' ep'=>aA3 fun g' d' U=>?_) (id hm')
 obtain⟨S2,E2⟩:=S.other (b:=env.locals) nb no sb.extBut (fun o g=>⟨fun U q=>(by revert hm;refine eE3 fun o2 es2 ep2=>aA3 fun g2 d2 U=>?_;rw[g] at g2;replace g2:=ab g2;subst g2;exact q.dE d2),o',g',fun U=>⟨es',ep',d'⟩⟩) (tk:=s.toks+1) (dr:=s.drawn)
 apply G;exact h _ S2 E2 hm' fun b nb=>sb.2 b nb
end
def EvI (W:Wd)(env:Env)(m:Str→Option Value)(e:Expr)(g:Int):Prop:=∀ (A:Around)(s:Shared)(Q:Value→Shared→Prop)(E:Value→Shared→Prop),s.heap.Ns env.locals m→(∀ t tk,Q (.int g t) { s with toks:=tk })→wpAny (model W.prog W.w) A (eval e env) Q E s
section
variable {W:Wd}{env:Env}{m:Str→Option Value}{e1 e2:Expr}{a b:Int}
theorem cJ {k pos}:EvI W env m (.Constant (.int i) k pos) i:=fun A s Q E hm hq=>wpAny_Constant_int (hq _ _)
theorem jz {pos}(hk:env.scope.kind = .function)(hN:env.kindOf n=some .local)(hd:(n == ("__debug__" : Str))=false)(hv:m n=some (.int a t)):EvI W env m (.Name n pos) a:=fun A s Q E hm hq=>wpAny_Name (wpAny_loadName_local hk hN hm hv (hq _ _)) hd
theorem kZ {pos}(h1:EvI W env m e1 a)(h2:EvI W env m e2 b)(ho:∀ (A:Around)(s:Shared)(t u:Tok)(Q:Value→Shared→Prop)(E:Value→Shared→Prop),(∀ t tk,Q (.int c t) { s with toks:=tk })→wpAny (model W.prog W.w) A (binaryOp op (.int a t) (.int b u)) Q E s):EvI W env m (.BinOp e1 op e2 pos) c:=fun A s Q E hm hq=>by
 refine wpAny_BinOp (h1 A s _ _ hm fun t tk=>?_)
 refine h2 A _ _ _ hm fun u tk2=>?_
 exact ho A _ t u _ _ fun t tk=>hq t tk
theorem rJ {pos}(h1:EvI W env m e1 a)(h2:EvI W env m e2 b):EvI W env m (.BinOp e1 .Add e2 pos) (a+b):=kZ h1 h2 fun A s t u Q E hq=>P.add_int (hq _ _)
theorem Eu {pos}(h1:EvI W env m e1 a)(h2:EvI W env m e2 b):EvI W env m (.BinOp e1 .Sub e2 pos) (a - b):=kZ h1 h2 fun A s t u Q E hq=>P.sub_int (hq _ _)
theorem mY {pos}(h1:EvI W env m e1 a)(h2:EvI W env m e2 b)(hm:IntMulOk a b):EvI W env m (.BinOp e1 .Mult e2 pos) (a * b):=kZ h1 h2 fun A s t u Q E hq=>P.mul_int (hq _ _) hm
theorem xC {pos}(h1:EvI W env m e1 a)(h2:EvI W env m e2 b)(hb:b≠0):EvI W env m (.BinOp e1 .Mod e2 pos) (a.fmod b):=kZ h1 h2 fun A s t u Q E hq=>AutoIntOps.mod_1 (by simpa using hb) (hq _ _)
theorem Fo {pos}(h1:EvI W env m e1 a)(h2:EvI W env m e2 b)(h0:0≤b)(hn:b≤1000000)(ha:a.natAbs < 2 ^ 64):EvI W env m (.BinOp e1 .Pow e2 pos) (a ^ b.toNat):=kZ h1 h2 fun A s t u Q E hq=>pow_int_small h0 hn ha (hq _ _)
theorem D5 {pos i k p}:EvI W env m (.UnaryOp .USub (.Constant (.int i) k p) pos) (-i):=fun A s Q E hm hq=>by
 refine wpAny_UnaryOp (wpAny_Constant_int ?_)
 exact P.neg_int (hq _ _)
end
structure HX (h:Heap)(a:Addr):Prop where
 at_:∃ x y:Int,∃ t u n,h.get? a=some ({ cls:=.type "list",dict:=none,data:=.seq #[.int x t,.int y u] n,slots:=#[] }:Obj)∧0≤x∧0≤y∧y < 2147483647∧x.natAbs.log2≤2 ^ 21
noncomputable def ax:Str:=Str.ofString "script"
noncomputable def nK:Str:=Str.ofString "k"
noncomputable def dM:Str:=Str.ofString "cell"
noncomputable def dA:Str:=Str.ofString "vast"
noncomputable def iU:Str:=Str.ofString "len"
noncomputable def iC:Str:=Str.ofString "max"
noncomputable def z9:Str:=Str.ofString "int"
noncomputable def fx:Str:=Str.ofString "mixed"
structure sS (env:Env):Prop where
 hk:env.scope.kind = .function
 a1:env.kindOf ax=some .local
 a2:env.kindOf nK=some .local
 a3:env.kindOf dM=some .local
 a4:env.kindOf dA=some .local
 a5:env.kindOf fx=some .local
theorem Ae (hc:c.natAbs.log2≤2 ^ 20+8):let v:=if -1 - c > c then -1 - c else c;0≤v∧v.natAbs.log2≤2 ^ 21:=by
 intro v
 have key:∀ n m:Nat,n≤m→m.log2≤2 ^ 20+8→n.log2≤2 ^ 21:=fun n m h k=>by
  by_cases z:n=0
  ·rw[z,show Nat.log2 0=0 from by decide +kernel];exact Nat.zero_le _
  ·exact Nat.le_trans ((Nat.le_log2 (Nat.ne_of_gt (Nat.lt_of_lt_of_le (Nat.pos_of_ne_zero z) h))).mpr (Nat.le_trans (Nat.log2_self_le z) h)) (Nat.le_trans k (by decide))
 cases c with
 | ofNat n =>
  have e:v=Int.ofNat n:=if_neg (by simp only[Int.ofNat_eq_natCast];omega)
  rw[e];exact⟨Int.natCast_nonneg n,key n n (Nat.le_refl _) hc⟩
 | negSucc n =>
  have e:v=Int.ofNat n:=(if_pos (by omega)).trans (by simp only[Int.ofNat_eq_natCast];omega)
  rw[e];exact⟨Int.natCast_nonneg n,key n (n+1) (Nat.le_succ n) hc⟩
section
variable {h0:Heap}{w:World}{os:OsState}{src:Addr}{on:Option Obj}{sz:List Nat}{ok:(∀ z∈sz,1≤z∧z≤4)∧sz.length≤8}
theorem BF (O:Obs h0)(hc:lkN c lG=some (.bt k))(hv:btV k=some v)(is:ag n c):gN (KH h0) n v:=by
 obtain⟨q1,q2⟩:=aa (aB O.names (bH hc))
 obtain rfl:=cF q1 is
 refine eE1 (fun u=>aA2 fun hu q2=>?_) (any_some q2)
 have q:btV k=some u:=au q2
 rw[hv] at q
 replace q:=ab q;subst q
 exact lu hu
theorem nS (O:Obs h0)(m:(c,T)∈yz)(is:ag n c):gN (KH h0) n (.builtin T):=by
 obtain⟨q1,q2⟩:=aa (aB O.yz m)
 obtain rfl:=cF q1 is
 obtain⟨q2,q3⟩:=aa q2
 exact .inr ⟨au q2,au q3⟩
theorem rh:∀ n∈[ax,nK,dM,dA,fx,iU,iC,z9],(n == ("__debug__" : Str))=false:=by decide +kernel
theorem wh (O:Obs h0){fs:List Env}{env:Env}{s:Shared}{sc:Sc}{A:Around}{E:Value→Shared→Prop}{scr:Addr}{items:Array Value}{nn:Nat}{k:Nat}{tk:Tok}{m:Str→Option Value}(hin:(KH h0).In s.heap)(eo:bR (mkW h0 w os src on sz ok) sc env fs)(N:sS env)(g1:sc.names.lookup iU=some .globalImplicit)
  (hm:s.heap.Ns env.locals m)(h1:m ax=some (.ref scr))(h2:m nK=some (.int (.ofNat k) tk))(hk:k≤1)(hL:IsL s.heap scr items nn)(hi:∀ v∈items.toList,∃ x t,v = .int x t∧x.natAbs.log2≤2 ^ 20+8)(hz:items.size≤63){a1 a2 a3 a4 a5 a6 a7 a8 a9 a10:Pos}{kk:Nat}{Q:Value→Shared→Prop}
  (hq:∀ c tc tk',c.natAbs.log2≤2 ^ 20+8→Q (.int c tc) { s with toks:=tk' }) :
  wpAny (model pw w) A (eval (.IfExp (.Compare (.Name nK a1) [.Lt] [.Call (.Name iU a2) [.Name ax a3] [] a4] a5) (.Subscript (.Name ax a6) (.Name nK a7) a8) (.Constant (.int 0) kk a9) a10) env) Q E s:=by
 have dn:=rh
 refine wpAny_IfExp (wpAny_isTrue_Compare1 (wpAny_Name (wpAny_loadName_local N.hk N.a2 hm h2 ?_) (dn _ (.tail _ (.head _)))) (by rfl))
 show wpAny _ _ (do callWith a4 (← eval (.Name iU a2) env) [] (backTo a4 (starEach [.Name ax a3] env)) (backToKw a4 (keywordEach [] env))) _ _ s
 refine wpAny_bind (cU eo hin g1 (qB O _ (aq (by kernel_rfl))) (dn _ (.tail _ (.tail _ (.tail _ (.tail _ (.tail _ (.head _))))))) ?_)
 refine Calls.callWith_builtin (by rfl) (Calls.evalArgs_plain (Calls.spliced_cons (wpAny_Name (wpAny_loadName_local N.hk N.a1 hm h1 (Calls.spliced_nil ?_)) (dn _ (.head _)))))
 refine PySem.Calls.call_len_list (aE hL) (by omega) ?_
 refine P.lt_int (wpAny_truthy_bool ?_)
 by_cases lt:(Int.ofNat k) < (items.size:Int)
 ·rw[decide_eq_true lt,if_pos rfl]
  refine Subscript_ (wpAny_Name (wpAny_loadName_local N.hk N.a1 hm h1 (wpAny_Name (wpAny_loadName_local N.hk N.a2 hm h2 ?_) (dn _ (.tail _ (.head _))))) (dn _ (.head _)))
  refine bC fun G=>?_;obtain⟨ops,hs⟩:=aO (.Name nK a7) (.ref scr) (.int (.ofNat k) tk)
  have ltn:k < items.size:=by simpa using lt
  refine eE2 (fun x t=>aA2 fun hx hb=>?_) (hi items[k] (by rw[← Array.mem_def];exact Array.getElem_mem ltn))
  apply G;refine tail_any (aE hL).typeIs F.slot_list_getitem.lookup (wpAny_getItem_list (k:=.ofNat k) (x:=.int x t) (aE hL) (Int.natCast_nonneg k) (by simp;omega) ?_ (hq x t _ hb)) hs
  show items[k]? = _
  rw[Array.getElem?_eq_getElem ltn,hx]
 ·rw[decide_eq_false lt,if_neg Bool.false_ne_true]
  exact wpAny_Constant_int (hq 0 _ _ (by decide +kernel))
theorem zj (O:Obs h0){fs:List Env}{env:Env}{ι:Io}{H:Hp}{s:Shared}{sc:Sc}{A:Around}{E:Value→Shared→Prop}{c:Int}{tc:Tok}{m:Str→Option Value}(hA:A.handled=none)(hin:(KH h0).In s.heap)(eo:bR (mkW h0 w os src on sz ok) sc env fs)(N:sS env)(g2:sc.names.lookup iC=some .globalImplicit)
  (hm:s.heap.Ns env.locals m)(h1:m dM=some (.int c tc)){a1 a2 a3 a4 a5 a6 a7:Pos}{kk:Nat}{Q:Value→Shared→Prop}
  (hq:∀ h' tv tk',(∀ b o,s.heap.get? b=some o→h'.get? b=some o)→Q (.int (if -1 - c > c then -1 - c else c) tv) { s with heap:=h',toks:=tk' }) :
  wpAny (model pw w) A (eval (.Call (.Name iC a1) [.Name dM a2,.BinOp (.UnaryOp .USub (.Constant (.int 1) kk a3) a4) .Sub (.Name dM a5) a6] [] a7) env) Q E s:=by
 have dn:=rh
 have dc:=dn _ (.tail _ (.tail _ (.head _)))
 show wpAny _ _ (do callWith a7 (← eval (.Name iC a1) env) [] (backTo a7 (starEach [.Name dM a2,.BinOp (.UnaryOp .USub (.Constant (.int 1) kk a3) a4) .Sub (.Name dM a5) a6] env)) (backToKw a7 (keywordEach [] env))) _ _ s
 refine wpAny_bind (cU eo hin g2 (nS O (.head _) (aq (by kernel_rfl))) (dn _ (.tail _ (.tail _ (.tail _ (.tail _ (.tail _ (.tail _ (.head _)))))))) ?_)
 have e:EvI (mkW h0 w os src on sz ok) env m (.BinOp (.UnaryOp .USub (.Constant (.int 1) kk a3) a4) .Sub (.Name dM a5) a6) (-1 - c):=Eu D5 (jz N.hk N.a3 dc h1)
 refine Calls.callWith_builtin (by rfl) (Calls.evalArgs_plain (Calls.spliced_cons (wpAny_Name (wpAny_loadName_local N.hk N.a3 hm h1 (Calls.spliced_cons (e _ _ _ _ hm fun t tk=>Calls.spliced_nil ?_))) dc)))
 refine max_two_ints hA fun h' tk' kp=>?_
 by_cases q : -1 - c > c
 ·rw[if_pos q];have:=hq h' t tk' kp;rw[if_pos q] at this;exact this
 ·rw[if_neg q];have:=hq h' tc tk' kp;rw[if_neg q] at this;exact this
theorem uK (O:Obs h0){fs:List Env}{env:Env}{ι:Io}{H:Hp}{s:Shared}{sc:Sc}{A:Around}{E:Value→Shared→Prop}{scr:Addr}{items:Array Value}{nn:Nat}{k:Nat}{tk:Tok}{m:Str→Option Value}
  (hA:A.handled=none)(S:St (mkW h0 w os src on sz ok) fs ι H s)(eo:bR (mkW h0 w os src on sz ok) sc env fs)(N:sS env)(g1:sc.names.lookup iU=some .globalImplicit)(g2:sc.names.lookup iC=some .globalImplicit)(g3:sc.names.lookup z9=some .globalImplicit)
  (nb:h0.get? env.locals=none)(no:¬ Own (mkW h0 w os src on sz ok) ι env.locals)(hm:s.heap.Ns env.locals m)(h1:m ax=some (.ref scr))(h2:m nK=some (.int (.ofNat k) tk))(hk:k≤1)
  (hL:IsL s.heap scr items nn)(hi:∀ v∈items.toList,∃ x t,v = .int x t∧x.natAbs.log2≤2 ^ 20+8)(hz:items.size≤63){p1 p2 p3 p4 p5 p6 p7 p8 p9 p10 p11 p12 p13 p14 p15 p16 p17 p18 p19 p20 p21 p22 p23 p24 p25 p26 p27 p28 p29 p30 p31 p32 p33 p34 p35 p36 p37 p38 p39 p40 p41 p42 p43 p44 p45 p46 p47 p48 p49 p50 p51 p52 p53 p54:Pos}{k1 k2 k3 k4 k5 k6 k7 k8 k9 k10:Nat} :
  wpAny (model pw w) A (execs [.Assign [.Name dM p1] (.IfExp (.Compare (.Name nK p2) [.Lt] [.Call (.Name iU p3) [.Name ax p4] [] p5] p6) (.Subscript (.Name ax p7) (.Name nK p8) p9) (.Constant (.int 0) k1 p10) p11) p12,
 .Assign [.Name dA p13] (.Call (.Name iC p14) [.Name dM p15,.BinOp (.UnaryOp .USub (.Constant (.int 1) k2 p16) p17) .Sub (.Name dM p18) p19] [] p20) p21,
 .Assign [.Name fx p22] (.BinOp (.BinOp (.BinOp (.BinOp (.BinOp (.BinOp (.Name dA p23) .Mod (.Constant (.int 2147483629) k3 p24) p25) .Add (.BinOp (.BinOp (.Constant (.int 7919) k4 p26) .Mult (.Name nK p27) p28) .Mult (.Name nK p29) p30) p31) .Add (.BinOp (.Constant (.int 31) k5 p32) .Mult (.Name nK p33) p34) p35) .Add (.Constant (.int 17) k6 p36) p37) .Mult (.Constant (.int 48271) k7 p38) p39) .Mod (.Constant (.int 2147483647) k8 p40) p41) p42,
 .Return (some (.List [.BinOp (.Name dA p43) .Mult (.Call (.Name z9 p44) [.Compare (.Name dA p45) [.GtE] [.BinOp (.Constant (.int 10) k9 p46) .Pow (.Constant (.int 18) k10 p47) p48] p49] [] p50) p51,.Name fx p52] p53)) p54] env) (fun fl s'=>∃ a,fl = .ret (.ref a)∧HX s'.heap a∧s.heap.get? a=none∧St (mkW h0 w os src on sz ok) fs ι H s'∧Ext (mkW h0 w os src on sz ok) (atL env) ι s.heap ι s'.heap) E s:=by
 have dn:=rh
 have sl:scr≠env.locals:=fun z=>by
  revert hm;refine eE3 fun o es ep=>aA3 fun g d U=>?_
  rw[← z,hL] at g
  replace g:=ab g;subst g;injection d
 refine wpAny_execs_cons (wpAny_Assign_stores (wh O S.ground eo N g1 hm h1 h2 hk hL hi hz fun c tc tk1 hc=>?_) (by rfl) (by rfl))
 rw[show(assignEach [Expr.Name dM p1] env).map (·.2)=[assign (.Name dM p1) env] from rfl]
 refine wpAny_assign_Name (iJ N.hk N.a3 (S.toks tk1) nb no hm fun s1 S1 E1 hm1 sb1=>?_)
 refine wpAny_execs_cons (wpAny_Assign_stores (zj (c:=c) (tc:=tc) (ι:=ι) (H:=H) O hA S1.ground eo N g2 hm1 (by simp) fun h2' tv tk2 kp=>?_) (by rfl) (by rfl))
 obtain⟨v0,vb⟩:=Ae hc
 generalize (if -1 - c > c then -1 - c else c)=v at v0 vb ⊢
 have S2:=S1.keeps kp (tk:=tk2) (dr:=s1.drawn)
 have hm2:=hm1.keeps kp
 rw[show(assignEach [Expr.Name dA p13] env).map (·.2)=[assign (.Name dA p13) env] from rfl]
 refine wpAny_assign_Name (iJ N.hk N.a4 S2 nb no hm2 fun s3 S3 E3 hm3 sb3=>?_)
 have ne1:nK≠dA:=by decide +kernel
 have ne2:nK≠dM:=by decide +kernel
 have ne3:dA≠fx:=by decide +kernel
 have dk:=dn _ (.tail _ (.head _))
 have dv:=dn _ (.tail _ (.tail _ (.tail _ (.head _))))
 have dm:=dn _ (.tail _ (.tail _ (.tail _ (.tail _ (.head _)))))
 refine bC fun G=>?_;obtain⟨m3,hm3,r1,r2⟩:∃ m3,s3.heap.Ns env.locals m3∧m3 dA=some (.int v tv)∧m3 nK=some (.int (.ofNat k) tk):=⟨_,hm3,if_pos rfl,(if_neg ne1).trans ((if_neg ne2).trans h2)⟩
 have iv:∀ {q:Pos},EvI (mkW h0 w os src on sz ok) env m3 (.Name dA q) v:=jz N.hk N.a4 dv r1
 have ik:∀ {q:Pos},EvI (mkW h0 w os src on sz ok) env m3 (.Name nK q) (.ofNat k):=jz N.hk N.a2 dk r2
 have kb:Builtin.Int.intBits (Int.ofNat k)≤64:=intBits_le_64 (by simp;omega) (by simp;omega)
 apply G;refine wpAny_execs_cons (wpAny_Assign_stores (xC (mY (rJ (rJ (rJ (xC iv cJ (by decide)) (mY (mY cJ ik (.of_right kb)) ik (.of_right kb))) (mY cJ ik (.of_right kb))) cJ) cJ (.of_right (intBits_le_64 (by decide) (by decide)))) cJ (by decide) _ _ _ _ hm3 fun ty tk4=>?_) (by rfl) (by rfl))
 rw[show(assignEach [Expr.Name fx p22] env).map (·.2)=[assign (.Name fx p22) env] from rfl]
 have y2:∀ y:Int,0≤y.fmod 2147483647∧y.fmod 2147483647 < 2147483647:=fun y=>⟨Int.fmod_nonneg_of_pos _ (by decide),Int.fmod_lt_of_pos _ (by decide)⟩
 refine wpAny_assign_Name (iJ N.hk N.a5 (S3.toks tk4) nb no hm3 fun s4 S4 E4 hm4 sb4=>?_)
 refine bC fun G=>?_;obtain⟨y,m4,hm4,r3,r4,y0,y1⟩:∃ y m4,s4.heap.Ns env.locals m4∧m4 dA=some (.int v tv)∧m4 fx=some (.int y ty)∧0≤y∧y < 2147483647:=⟨_,_,hm4,(if_neg ne3).trans r1,if_pos rfl,y2 _⟩
 have iv:∀ {q:Pos},EvI (mkW h0 w os src on sz ok) env m4 (.Name dA q) v:=jz N.hk N.a4 dv r3
 apply G;refine wpAny_execs_cons (wpAny_Return_some (wpAny_List (Calls.spliced_cons (wpAny_BinOp (iv _ _ _ _ hm4 fun t5 tk5=>?_)))))
 show wpAny _ _ (do callWith p50 (← eval (.Name z9 p44) env) [] (backTo p50 (starEach [.Compare (.Name dA p45) [.GtE] [.BinOp (.Constant (.int 10) k9 p46) .Pow (.Constant (.int 18) k10 p47) p48] p49] env)) (backToKw p50 (keywordEach [] env))) _ _ _
 refine wpAny_bind (cU eo S4.ground g3 (BF O (c:=1914729) (k:=2) (by kernel_rfl) rfl (aq (by kernel_rfl))) (dn _ (.tail _ (.tail _ (.tail _ (.tail _ (.tail _ (.tail _ (.tail _ (.head _))))))))) ?_)
 refine PySem.callWith_type (by rfl) (Calls.evalArgs_plain (Calls.spliced_cons (wpAny_Compare1 (iv _ _ _ _ hm4 fun t6 tk6=>?_) (by rfl))))
 refine Fo (W:=mkW h0 w os src on sz ok) cJ cJ (by decide) (by decide) (by decide) _ _ _ _ hm4 fun t7 tk7=>?_
 refine P.ge_int (Calls.spliced_nil (call_int_bool ?_))
 generalize decide (v≥_)=b
 have bb:Builtin.Int.intBits (if b then 1 else 0:Int)≤64:=by cases b<;>exact intBits_le_64 (by decide) (by decide)
 refine P.mul_int (Calls.spliced_cons (wpAny_Name (wpAny_loadName_local N.hk N.a5 hm4 r4 (Calls.spliced_nil ⟨by show 2≤sizeLine;decide +kernel,?_⟩)) dm)) (.of_right bb)
 have E5:=((E1.trans (.of_keeps kp)).trans E3).trans E4
 refine⟨s4.heap.objs.size,rfl,⟨_,_,_,_,_,Heap.get?_push_size _ rfl,?_,y0,y1,?_⟩,E5.none (aw (Nat.le_refl _)),S4.keeps (aj _ _),E5.trans (.of_keeps (aj _ _))⟩
 ·cases b
  ·exact Int.le_of_eq (Int.mul_zero v).symm
  ·rw[if_pos rfl,Int.mul_one];exact v0
 ·cases b
  ·rw[if_neg Bool.false_ne_true,Int.mul_zero];decide +kernel
  ·rw[if_pos rfl,Int.mul_one];exact vb
end
noncomputable def wfn (W:Wd)(a:Addr):Wd:={ W with fn:=fun U=>some a }
section
variable {W:Wd}{X:Addr→Prop}{fs:List Env}{ι ι':Io}{H:Hp}{s:Shared}{a:Addr}{h h':Heap}
theorem St.BN (S:St W fs ι H s):St (wfn W a) fs I0 H0 s:=by
 obtain⟨⟨o,g,q⟩⟩:=S.src
 have f:=S.fresh W.src (.inl rfl)
 exact S.into (W':=wfn W a) rfl rfl rfl rfl rfl g q f.1 f.2
theorem St.ofFn (S:St (wfn W a) fs ι H s):St W fs I0 H0 s:=by
 obtain⟨⟨o,g,q⟩⟩:=S.src
 have f:=S.fresh _ (.inl rfl)
 exact S.into (W':=W) rfl rfl rfl rfl rfl g q f.1 f.2
theorem Ext.ofFn (E:Ext (wfn W a) X I0 h ι' h'):Ext W X I0 h I0 h' :=
 have no:∀ {b},¬ Own W I0 b→¬ Own (wfn W a) I0 b:=fun n z=>n (.inl (kL z))
 ⟨Sub.refl _,fun b o g c d n=>⟨(E.tk b o g c d (no n)).1,n⟩,fun b o g c n=>E.keep b o g c (no n),E.dom,fun b z=>.inl z⟩
end
section
variable {h0:Heap}{w:World}{os:OsState}{scr:Addr}{so:Obj}{sz:List Nat}{ok:(∀ z∈sz,1≤z∧z≤4)∧sz.length≤8}
abbrev WL (h0:Heap)(w:World)(os:OsState)(scr:Addr)(so:Obj)(sz:List Nat)(ok:(∀ z∈sz,1≤z∧z≤4)∧sz.length≤8):Wd:=mkW h0 w os scr (some so) sz ok
theorem St.kW (S:St (WL h0 w os scr so sz ok) fs ι H s):s.heap.get? scr=some so:=by
 obtain⟨⟨o,g,q⟩⟩:=S.src
 exact q.2.2 so rfl▸g
structure Scr (so:Obj)(items:Array Value)(nn:Nat):Prop where
 is:so=({ cls:=.type "list",dict:=none,data:=.seq items nn,slots:=#[] }:Obj)
 nums:∀ v∈items.toList,∃ x t,v = .int x t∧x.natAbs.log2≤2 ^ 20+8
 len:items.size≤63
theorem uU (O:Obs h0){items:Array Value}{nn:Nat}(Y:Scr so items nn){A:Around}{fs:List Env}{ι:Io}{H:Hp}{s:Shared}(hA:A.handled=none)(hroom:A.depth < recursionLimit)(S:St (WL h0 w os scr so sz ok) fs ι H s){k:Nat}(hk:k≤1){t:Tok}{R:Result→Shared→Prop}
  (h:∀ a s',HX s'.heap a→s.heap.get? a=none→St (WL h0 w os scr so sz ok) fs I0 H0 s'→Ext (WL h0 w os scr so sz ok) noX I0 s.heap I0 s'.heap→R (.ok (.ret (.ref a))) s'):codeAny (model pw w) A (.call (.ref fy) ⟨[.ref scr,.int (.ofNat k) t],[]⟩) R s:=by
 refine eE4 (fun fd oc od osl=>aA4 fun hK hk' P ht=>?_) (O.fn (a:=fy) (p:=(fW,none)) (.tail _ (.tail _ (.head _))) (.tail _ (.tail _ (.head _))) rfl)
 have hdf:=O.none (.tail _ (.tail _ (.head _))) hK
 have e1:fd.params=_:=congrArg Txt.params ht
 have e2:fd.body=_:=congrArg Txt.body ht
 have e3:fd.scope=_:=congrArg Txt.scope ht
 have hs:(bI 0 false fd.scope fd.code fd.qualname []).names=fd.scope.names:=rfl
 have en:eO (wfn (WL h0 w os scr so sz ok) scr) (bI 0 false fd.scope fd.code fd.qualname []) fd [] [] [ax,nK] 5 0 [cV 0,cV 1] [] iK:=by
  have:=yR (W:=wfn (WL h0 w os scr so sz ok) scr) (hid:=0) (fd:=fd) (ps:=[cV 0,cV 1]) (top:=false) (free:=[]) (df:=[]) (b:=iK) (by rw[e3];kernel_rfl) (by rw[e1];kernel_rfl) P.gl P.bi (by unfold bI;rw[e1,e3];kernel_rfl) (Nat.zero_le _) (.inl (by rw[e3];kernel_rfl)) (fun ι s U U=>dW hdf ι s) (.inl ⟨_,e2,nX⟩)
  rw[show ownOf fd.scope=[] from by rw[e3];kernel_rfl,show(aP 0 fd.scope).length=5 from by rw[e3];kernel_rfl,show fd.params.args.map (·.arg)=[ax,nK] from by rw[e1];kernel_rfl] at this
  exact this
 have hcd:=P.code
 refine fK (r:=fun U U U U U=>false) (xs:=[.fn 0,.int (.ofNat k)]) (K:=isAt (.mk [.fn 0,.int (.ofNat k),.unset,.unset,.unset] []) H0) en hroom (S.BN (a:=scr)) (S.ground _ _ hK) rfl (codeRec_of S.ground hcd) (js:=[]) (.inl rfl) (fun i n z=>by exact zns z) (.cons (.fn rfl) (.cons (.int _ _) .nil)) (by simp) (by simp) (fQ _ _) e2 fun env s2 P=>?_
 refine bC fun G=>?_;obtain⟨f',ι',H',S2,E2,F2,eo,l0,tk⟩:=P
 obtain⟨rfl,rfl⟩:=fP tk
 have en2:env.scope.names=fd.scope.names:=eo.names
 have N:sS env:=by
  refine⟨eo.kind,?_,?_,?_,?_,?_⟩<;>(unfold Env.kindOf;rw[en2,e3];kernel_rfl)
 refine eE1 (fun m=>aA2 fun hm sl=>?_) (F2.ns)
 have q1:(bI 0 false fd.scope fd.code fd.qualname []).slots[0]? = some ax:=by show(aP 0 fd.scope)[0]? = _;rw[e3];kernel_rfl
 have q2:(bI 0 false fd.scope fd.code fd.qualname []).slots[1]? = some nK:=by show(aP 0 fd.scope)[1]? = _;rw[e3];kernel_rfl
 refine eE1 (fun v1=>aA2 fun hv1 r1=>?_) ((sl 0 _ _ q1 rfl).resolve_left (fun z=>Vl.noConfusion z))
 refine eE1 (fun v2=>aA2 fun hv2 r2=>?_) ((sl 1 _ _ q2 rfl).resolve_left (fun z=>Vl.noConfusion z))
 obtain rfl:v1 = .ref scr:=by refine eE1 (fun U=>aA2 fun z10q1 e=>?_) (r1.inv);obtain rfl:=z10q1;exact congrArg Value.ref (ab e).symm
 obtain⟨t',rfl⟩:∃ t',v2 = .int (.ofNat k) t':=by obtain⟨t',rfl⟩:=r2.inv;exact⟨t',rfl⟩
 have S2':=S2.ofFn
 have gl:=S2'.kW
 rw[Y.is] at gl
 apply G;refine codeAny_func (wpAny_mono (uK (k:=k) (E:=fun U U=>False) O (show(A.deeper env).handled=none from hA) S2' ⟨eo.names,eo.kind,eo.globals,eo.builtins,eo.frame,eo.code⟩ N (by rw[hs,e3];kernel_rfl) (by rw[hs,e3];kernel_rfl) (by rw[hs,e3];kernel_rfl) F2.nb (fun z=>F2.no (.inl (kL z))) hm hv1 hv2 hk gl Y.nums Y.len) (fun fl s3 P=>?_) fun U U z=>z.elim)
 refine bC fun G=>?_;revert P;refine eE1 fun a=>aA5 fun z12q1 Pa na S3 E3=>?_;obtain rfl:=z12q1
 have E:=((E2.ofFn.weaken fun U z=>z.elim).trans E3).drop (X:=noX) fun b z=>.inr (by rw[show b=env.locals from z];exact l0)
 apply G;exact h a s3 Pa (E2.none na) S3.exit E
end
section
noncomputable def XL:Cx:={ XC with cov:=[(0,100000)] }
noncomputable def F1:Fm:=.mk [.unset,.unset] [0]
noncomputable def H1:Hp:=one (.cell .src)
def kT (v:Vl)(h:Hp):Bool:=ifV v false (eV H1 h)
def jT (K:Frag)(sc:Sc)(e:Expr):Bool:=!isIte e&&(cX XL (uE NC) 40 sc e).any fun c=>c rc F1 H1 kT noE
end
section
variable {h0:Heap}{w:World}{os:OsState}{src:Addr}{on:Option Obj}{sz:List Nat}{ok:(∀ z∈sz,1≤z∧z≤4)∧sz.length≤8}
theorem Hr (O:Obs h0):bT XL (mkW h0 w os src on sz ok):=
 have o:=xE O
 ⟨o.wok,o.name,o.attr,o.kU,o.enum,o.zip,o.range,o.dict,o.list⟩
theorem jI (O:Obs h0)(hc:jT (KH h0) sc e=true)(h:Here (mkW h0 w os src on sz ok) sc rc 60 A fs env F1 (io1 p) H1 s)
  (hq:∀ s',Here (mkW h0 w os src on sz ok) sc rc 60 A fs env F1 (io1 p) H1 s'→Ext (mkW h0 w os src on sz ok) noX (io1 p) s.heap (io1 p) s'.heap→wpAny (model pw w) A (execs rest env) Q E s'):wpAny (model pw w) A (execs (.If e b1 [] pos :: rest) env) Q E s:=by
 obtain⟨hi,hc⟩:=aa hc
 refine eE1 (fun c=>aA2 fun hr hc=>?_) (any_some hc)
 have st:=(tG (Hr (w:=w) (os:=os) (src:=src) (on:=on) (sz:=sz) (ok:=ok) O) pF (jH (rX O)) 40 sc e c hr).2 (Bool.not_eq_true' _▸hi)
 refine wpAny_execs_cons (wpAny_If (wpAny_mono (st rc 60 A fs env F1 (io1 p) H1 s (fun U=>false) (eV H1) noE h hc) (fun b s1 P=>?_) fun v s1 P=>?_))
 ·obtain⟨ι',H',S',E',t⟩:=P
  cases b with
  | true=>exact nf t
  | false =>
   obtain⟨S2,E2⟩:=h.st.shrink S' E' fun k o g=>cB (H:=H1) (H':=H') t g
   exact wpAny_execs_nil (hq s1 (h.next S2 E2) E2)
 ·obtain⟨_,_,_,_,_,_,_,_,_,t⟩:=P
  exact nf t
end
noncomputable def bD:Str:=Str.ofString "source"
noncomputable def lK:Str:=Str.ofString "_law_pool"
structure sE (sc:Sc):Prop where
 s0:sc.slots[0]? = some ax
 s1:sc.slots[1]? = some nK
 ce:sc.cells=[bD]
 l0:sc.names.lookup ax=some .local
 l1:sc.names.lookup nK=some .local
 lc:sc.names.lookup bD=some .cell
 gp:sc.names.lookup lK=some .globalImplicit
section
variable {W:Wd}{c:Addr}{h h':Heap}
theorem Ext.IM (E:Ext W (· = c) I0 h I0 h'):Ext W noX (io1 (c,c)) h (io1 (c,c)) h' :=
 ⟨Sub.refl _,fun b o g t d no=>⟨(E.tk b o g t d fun z=>no (.inl (kL z))).1,no⟩,fun b o g k no U=>E.keep b o g k (fun z=>no (.inl (kL z))) fun z=>no (.inr ⟨0,(c,c),rfl,.inl z⟩),E.dom,fun b z=>.inl z⟩
end
noncomputable def Hc:Hp:=one (.cell .unset)
section
variable {h0:Heap}{w:World}{os:OsState}{scr c:Addr}{so:Obj}{sz:List Nat}{ok:(∀ z∈sz,1≤z∧z≤4)∧sz.length≤8}
theorem uv (O:Obs h0)(R:Runs){items:Array Value}{nn:Nat}(Y:Scr so items nn){sc:Sc}(L:sE sc){e2 e3 e4:Expr}(c2:jT (KH h0) sc e2=true)(c3:jT (KH h0) sc e3=true)(c4:jT (KH h0) sc e4=true){A:Around}{fs:List Env}{env:Env}{s:Shared}{i:Nat}{m:Str→Option Value}{t2:Tok}
  (ar:Ar A fs 60)(eo:bR (WL h0 w os scr so sz ok) sc env fs)(S:St (WL h0 w os scr so sz ok) fs (io1 (c,c)) Hc s)(hcl:env.cells.lookup bD=some c)(lb:h0.get? env.locals=none)(ls:env.locals≠scr)(lc:env.locals≠c)(hm:s.heap.Ns env.locals m)(m1:m ax=some (.ref scr))(m2:m nK=some (.int (.ofNat i) t2))(hi:i≤1)
  {b2 b3 b4:List Stmt}{p1 p2 p3 p4 p5 p6 p7 p8 p9:Pos}{E:Value→Shared→Prop} :
  wpAny (model pw w) A (execs (.Assign [.Name bD p1] (.Call (.Name lK p2) [.Name ax p3,.Name nK p4] [] p5) p6 :: .If e2 b2 [] p7 :: .If e3 b3 [] p8 :: .If e4 b4 [] p9 :: []) env) (fun fl s'=>fl = .next∧St (WL h0 w os scr so sz ok) fs (io1 (c,c)) Hc s'∧Ext (WL h0 w os scr so sz ok) noX (io1 (c,c)) s.heap (io1 (c,c)) s'.heap) E s:=by
 have dn:∀ n∈[lK,bD,ax,nK],(n == ("__debug__" : Str))=false:=by decide +kernel
 have ko:∀ n,env.kindOf n=sc.names.lookup n:=fun n=>by unfold Env.kindOf;rw[eo.names]
 refine bC fun G=>?_;obtain⟨keep,_⟩:=aa (aB O.hand (a:=fy) (.tail _ (.tail _ (.head _))))
 obtain⟨cb,cf⟩:=S.fresh c (.inr ⟨0,(c,c),rfl,.inl rfl⟩)
 have cs:c≠scr:=(S.aF 0 (c,c) rfl).1
 apply G;obtain⟨o,ov,g0,k1,d1⟩:∃ o ov,s.heap.get? c=some o∧o.cls = .type "cell"∧o.data = .cell ov:=by
  obtain⟨_,o,ov,g,k,d,_⟩:=S.ro (k:=0) (p:=(c,c)) (o:=.cell .unset) rfl rfl
  exact⟨o,ov,g,k,d⟩
 refine wpAny_execs_cons (wpAny_Assign_stores ?_ (by rfl) (by rfl))
 show wpAny _ _ (do callWith p5 (← eval (.Name lK p2) env) [] (backTo p5 (starEach [.Name ax p3,.Name nK p4] env)) (backToKw p5 (keywordEach [] env))) _ _ s
 refine wpAny_bind (fC eo S.ground L.gp (jv O (.tail _ (.tail _ (.head _))) (aq (by kernel_rfl))) (dn _ (.head _)) ?_)
 refine callWith_of (P:=(KH h0).In) (by rfl) (keeps_K keep) ?_
 refine Calls.evalArgs_plain (Calls.spliced_cons (wpAny_Name (wpAny_loadName_local eo.kind ((ko _).trans L.l0) hm m1 (Calls.spliced_cons (wpAny_Name (wpAny_loadName_local eo.kind ((ko _).trans L.l1) hm m2 (Calls.spliced_nil ⟨S.ground,wpAny_call (uU O Y ar.handled (by have:=ar.depth;show A.depth < 1000;omega) S hi fun a s1 Pa na S1 E1=>?_)⟩)) (dn _ (.tail _ (.tail _ (.tail _ (.head _))))))) ) (dn _ (.tail _ (.tail _ (.head _))))))
 refine wpAny_assign_Name ?_
 have no:¬ Own (WL h0 w os scr so sz ok) I0 c:=fun z=>cs (kL z)
 have nl:¬ Own (WL h0 w os scr so sz ok) I0 env.locals:=fun z=>ls (kL z)
 have g1:s1.heap.get? c=some o:=by
  refine eE1 (fun sl=>aA2 fun g' q=>?_) (E1.keep _ _ g0 (.inr cb) no id)
  rw[q fun U U z=>by rw[d1] at z;injection z] at g'
  exact g'
 have hm1:s1.heap.Ns env.locals m:=by
  revert hm;refine eE3 fun o es ep=>aA3 fun g d r=>?_
  refine eE1 (fun sl=>aA2 fun g' U=>?_) (E1.keep _ _ g (.inr lb) nl id)
  exact⟨_,es,ep,g',d,r⟩
 unfold storeName
 simp only[(ko bD).trans L.lc,eo.kind]
 refine wpAny_bind (wpAny_cellOf hcl ?_)
 unfold cellSet
 refine wpAny_bind (wpAny_load g1 ?_)
 rw[d1]
 refine wpAny_update g1 ?_
 have g2:=Heap.get?_update_self (fun o:Obj=>{ o with data:=.cell (some (.ref a)) }) g1 rfl
 have sb:Heap.SameBut c s1.heap (s1.heap.update c fun o:Obj=>{ o with data:=.cell (some (.ref a)) }):=Heap.SameBut.update ..
 generalize (s1.heap.update c fun o:Obj=>{ o with data:=.cell (some (.ref a)) })=hh at g2 sb
 refine bC fun G=>?_;obtain⟨S2,E2⟩:=S1.other (b:=c) cb no sb.extBut (fun o' g=>⟨fun t=>(by rw[g1] at g;replace g:=ab g;subst g;exact absurd t (TC.ne k1)),_,g2,fun z=>absurd z cf⟩) (tk:=s1.toks) (dr:=s1.drawn)
 have ca:c≠a:=fun z=>by rw[← z,g0] at na;exact zsn na
 have sa:scr≠a:=fun z=>by rw[← z,S.kW] at na;exact zsn na
 apply G;obtain⟨x,y,t,u,n,gA,q1,q2,q3,q4⟩:∃ x y:Int,∃ t u n,hh.get? a=some ({ cls:=.type "list",dict:=none,data:=.seq #[.int x t,.int y u] n,slots:=#[] }:Obj)∧0≤x∧0≤y∧y < 2147483647∧x.natAbs.log2≤2 ^ 21:=by
  refine eE5 (fun x y t u n=>aA2 fun g q=>?_) (Pa.at_)
  exact⟨x,y,t,u,n,(sb.2 a ca.symm).trans g,q⟩
 have na0:h0.get? a=none:=S.dg (b:=a) na
 have nfr:a∉frs fs:=fun z=>by refine eE3 (fun U U U=>aA2 fun g U=>?_) (S.frd a z);exact nomatch (na.symm.trans g)
 have S3:St (mkW h0 w os a none sz ok) fs I0 H0 _:=S2.into rfl rfl rfl rfl rfl gA ⟨(show Value.type "list"≠.type "code" from by decide),(fun U=>⟨x,y,t,u,n,rfl,q1,q2,q3,q4⟩),fun U e=>nomatch e⟩ na0 nfr
 have S4:=S3.own (p:=(c,c)) (o:=.cell .src) ⟨rfl,_,some (.ref a),g2,k1,rfl,.inr ⟨_,rfl,.src rfl⟩⟩ rfl g2 (by show o.cls≠_;rw[k1];decide) cb cf ca
 have la:env.locals≠a:=fun z=>by revert hm;refine eE3 fun U U U=>aA2 fun g U=>?_;rw[z,na] at g;exact zns g
 have hm2:hh.Ns env.locals m:=by
  revert hm1;refine eE3 fun o es ep=>aA3 fun g d r=>?_
  exact⟨_,es,ep,(sb.2 _ lc).trans g,d,r⟩
 have FF:aS (mkW h0 w os a none sz ok) sc env (io1 (c,c)) hh F1:=by
  refine⟨fun z=>?_,lb,⟨m,hm2,fun i n x U g=>.inl ?_⟩,fun i n g hk=>?_⟩
  ·rcases pP z with z | z | z
   ·exact la z
   ·exact lc z
   ·exact lc z
  ·match i,g with
   | 0,g=>exact(ab g).symm
   | 1,g=>exact(ab g).symm
   | _+2,g=>exact nomatch g
  ·rw[L.ce] at g
   match i,g with
   | 0,g=>(replace g:=ab g;subst g);exact⟨0,c,c,rfl,rfl,hcl⟩
   | _+1,g=>exact nomatch g
 have h4:Here (mkW h0 w os a none sz ok) sc rc 60 A fs env F1 (io1 (c,c)) H1 _:=⟨Ci O R,ar,⟨eo.names,eo.kind,eo.globals,eo.builtins,eo.frame,eo.code⟩,FF,S4⟩
 refine jI O c2 h4 fun s5 h5 E5=>jI O c3 h5 fun s6 h6 E6=>jI O c4 h6 fun s7 h7 E7=>wpAny_execs_nil ?_
 have EE:=(E5.trans E6).trans E7
 have S7:=h7.st
 have g7:s7.heap.get? scr=some so:=by
  obtain⟨sl,g',q⟩:=EE.keep scr so S2.kW (.inr (S2.fresh scr (.inl rfl)).1) (fun z=>by
   rcases pP z with z | z | z
   ·exact sa z
   ·exact cs z.symm
   ·exact cs z.symm) id
  rw[q fun U U z=>by rw[Y.is] at z;injection z] at g'
  exact g'
 refine bC fun G=>?_;obtain⟨sb',sf⟩:=S2.fresh scr (.inl rfl)
 have S8:St (WL h0 w os scr so sz ok) fs I0 H0 s7:=S7.into rfl rfl rfl rfl rfl g7 ⟨(by rw[Y.is];exact(show Value.type "list"≠.type "code" from by decide)),(fun z=>nomatch z),fun x e=>ab e⟩ sb' sf
 obtain⟨_,o7,ov7,r1,r2,r3,_⟩:=S7.ro (k:=0) (p:=(c,c)) (o:=.cell .src) rfl rfl
 have S9:=S8.own (p:=(c,c)) (o:=.cell .unset) ⟨rfl,o7,ov7,r1,r2,r3,.inl rfl⟩ rfl r1 (by show o7.cls≠_;rw[r2];decide) cb cf cs
 apply G;refine⟨rfl,S9,?_⟩
 have X3:Ext (WL h0 w os scr so sz ok) (fun b=>b=a∨b=c) I0 hh I0 s7.heap:=⟨Sub.refl _,fun b o g t d n=>⟨(EE.tk b o g t d fun z=>(by
   rcases pP z with z | z | z
   ·rw[show b=a from z] at g;have g:=gA.symm.trans g;replace g:=ab g;subst g;exact absurd t (TC.ne rfl)
   ·rw[show b=c from z] at g;have g:=g2.symm.trans g;replace g:=ab g;subst g;exact absurd t (TC.ne k1)
   ·rw[show b=c from z] at g;have g:=g2.symm.trans g;replace g:=ab g;subst g;exact absurd t (TC.ne k1))).1,n⟩,
  fun b o g k n nx=>EE.keep b o g k (fun z=>by
   rcases pP z with z | z | z
   ·exact nx (.inl z)
   ·exact nx (.inr z)
   ·exact nx (.inr z)) id,EE.dom,fun b z=>.inl z⟩
 exact Ext.IM ((((E1.weaken fun U z=>z.elim).trans (E2.weaken fun U z=>.inr z)).trans X3).drop fun b z=>z.elim (fun z=>.inr (z▸na)) .inl)
end
section
noncomputable def CC (v:Vl)(n:Nat):List Vl:=@Nat.rec (fun U=>List Vl) [] (fun U ih=>v :: ih) n
def Ed:Bin:=fun H a b k=>match a,b with
 | .ref i,.int (.ofNat n)=>aL H i fun o=>match o with
  | .list [v]=>Nat.ble n 63&&mkL (CC v n) H k
  | _=>false
 | _,_=>false
end
theorem qT (x:Value):∀ (n:Nat)(a:Array Value),(List.foldl (fun x1 x2=>x1++x2) a (List.replicate n #[x])).toList=a.toList++List.replicate n x:=by
 intro n
 induction n with
 | zero=>intro a;simp
 | succ n ih=>intro a;rw[List.replicate_succ,List.foldl_cons,ih,List.replicate_succ];simp
theorem BD (r:RV W ι h x v):∀ n,RVs W ι h (List.replicate n x) (CC v n):=by
 intro n
 induction n with
 | zero=>exact .nil
 | succ n ih=>exact .cons r ih
theorem mulL {prog:Program}{w:World}{A:Around}{E:Value→Shared→Prop}{s:Shared}{l:Addr}{items:Array Value}{k:Nat}{x:Int}{u:Tok}{Q:Value→Shared→Prop}
  (hl:s.heap.get? l=some { cls:=.type "list",dict:=none,data:=.seq items k,slots:=#[] })
  (hlo : -(2 ^ 63:Int)≤x)(hhi:x < 2 ^ 63)(hsz:items.size * x.toNat≤2 ^ 24)
  (h:Q (.ref s.heap.objs.size) { s with heap:=s.heap.push { cls:=.type "list",data:=.seq (List.foldl (fun x1 x2=>x1++x2) #[] (List.replicate (if items.isEmpty=true then 0 else x.toNat) items)) } }) :
  wpAny (model prog w) A (binaryOp .Mult (.ref l) (.int x u)) Q E s :=
 wpAny_binaryOp_repeat_ref (T:="list") (U:="int") (by decide) ⟨_,hl,rfl⟩ (fun s'=>typeIs_int s' x u) noFill_list_mul F.fills_int_mul F.slot_int_rmul repeat_list F.slot_int_index.lookup
  (call_meets F.slot_int_rmul (typeIs_int s x u) F.entry_int_rmul (F.args_int_rmul_2 _ _) (int___rmul___int_list x u l items k)
   ⟨hl,rfl,⟨_,hl,rfl⟩,call_meets F.slot_list_mul ⟨_,hl,rfl⟩ F.entry_list_mul (F.args_list_mul_2 _ _)
    (AutoListH.list___mul___list_int_3 l items k x u (by simp[Builtin.List.listFitsIndex];omega) (by omega) (by simp[Builtin.List.listTooLong,sizeLine];omega))
    ⟨hl,h⟩⟩)
set_option tactic.hygienic true in
theorem pZ {W:Wd}:vE W .Mult Ed:=fun A fs d ι H s a b x y k E ar S ra rb t=>by
 unfold Ed at t
 split at t
 ·rename_i i n
  refine eE1 (fun o=>aA2 fun g t=>?_) (af t)
  split at t
  ·rename_i v
   obtain⟨t1,t⟩:=aa t
   have n63:=bS t1
   obtain⟨u,rfl⟩:=rb.inv;next =>
   obtain⟨a,d',rfl,e⟩:=ra.inv
   obtain⟨_,_,vs,nn,gl,rv⟩:=S.ro e g
   obtain⟨vl⟩:=vs
   cases rv with | cons r1 r2 =>
   cases r2
   rename_i x
   have hl:s.heap.get? a=some { cls:=.type "list",dict:=none,data:=.seq #[x] nn,slots:=#[] }:=gl
   refine mulL hl (by simp) (by simp;omega) (by simp;exact fS n63 (by simp +arith only)) ?_
   have q:=iT S (BD r1 n) t (tk:=s.toks) (dr:=s.drawn) (n:=0)
   have e:(List.replicate n x).toArray=List.foldl (fun x1 x2=>x1++x2) #[] (List.replicate (if(#[x]:Array Value).isEmpty=true then 0 else(Int.ofNat n).toNat) #[x]):=by
    apply Array.ext'
    rw[qT]
    simp
   rw[e] at q
   exact q
  ·exact ft t
 ·exact ft t
section
noncomputable def Fi (v:Vl):Bool:=match v with
 | .int _=>true
 | _=>false
noncomputable def xmm (x:CX):CX:=fun r f h k e=>x r f h (fun v h=>Fi v&&(k (.int 1) h&&k (.int 2) h)) e
end
noncomputable def wL (v:Vl):Bool:=match v with
 | .fn _=>true
 | _=>false
theorem pR (h:wL v=true):∃ i,v = .fn i:=by
 cases v<;>first | exact⟨_,rfl⟩| exact nf h
def Cj (n:Nat):CX:=fun U f h k U=>nq f 0 fun v=>wL v&&k (.int (.ofNat n)) h
noncomputable def mT:Str:=Str.ofString "min"
section
variable {h0:Heap}{w:World}{os:OsState}{scr:Addr}{so:Obj}{sz:List Nat}{ok:(∀ z∈sz,1≤z∧z≤4)∧sz.length≤8}
theorem wd (r:RV (wfn W a) ι h v (.fn i)):v = .ref a:=by
 refine eE1 (fun U=>aA2 fun z1q1 e=>?_) (r.inv);obtain rfl:=z1q1;next=>exact congrArg Value.ref (ab e).symm
theorem AO (O:Obs h0){items:Array Value}{nn:Nat}(Y:Scr so items nn){sc:Sc}(g0:sc.slots[0]? = some ax)(l0:sc.names.lookup ax=some .local)(gl:sc.names.lookup iU=some .globalImplicit){p2 p3 p5:Pos}:SX (wfn (WL h0 w os scr so sz ok) scr) sc (Cj items.size) (.Call (.Name iU p2) [.Name ax p3] [] p5):=fun r d A fs env f ι H s k e h t=>by
 refine bC fun G=>?_;refine eE1 (fun x=>aA3 fun hx U t=>?_) (dZ t)
 obtain⟨t1,t⟩:=aa t
 obtain⟨i,rfl⟩:=pR t1
 refine eE1 (fun m=>aA2 fun hm sl=>?_) (h.fr.ns)
 refine eE1 (fun v1=>aA2 fun hv1 r1=>?_) ((sl 0 _ _ g0 hx).resolve_left (fun z=>Vl.noConfusion z))
 obtain rfl:=wd r1
 have dn:∀ n∈[iU,ax],(n == ("__debug__" : Str))=false:=by decide +kernel
 apply G;show wpAny _ _ (do callWith p5 (← eval (.Name iU p2) env) [] (backTo p5 (starEach [.Name ax p3] env)) (backToKw p5 (keywordEach [] env))) _ _ s
 refine wpAny_bind (cU h.eo h.st.ground gl (qB O _ (aq (by kernel_rfl))) (dn _ (.head _)) ?_)
 refine Calls.callWith_builtin (by rfl) (Calls.evalArgs_plain (Calls.spliced_cons (wpAny_Name (wpAny_loadName_local h.eo.kind ((h.kindOf _).trans l0) hm hv1 (Calls.spliced_nil ?_)) (dn _ (.tail _ (.head _))))))
 have gL:=h.st.ofFn.kW
 rw[Y.is] at gL
 refine PySem.Calls.call_len_list (aE gL) (by have:=Y.len;omega) ?_
 exact⟨ι,H,_,h.st.toks _,.refl,.int _ _,t⟩
theorem Gj (O:Obs h0)(g1:sc.names.lookup iC=some .globalImplicit)(g2:sc.names.lookup mT=some .globalImplicit)(hx:SX (wfn (WL h0 w os scr so sz ok) scr) sc x ex)(h1:∀ env,eval (.Call (.Name mT p3) [.Constant (.int 2) k2 p4,ex] [] p5) env=(do callWith p5 (← eval (.Name mT p3) env) [] (backTo p5 (starEach [.Constant (.int 2) k2 p4,ex] env)) (backToKw p5 (keywordEach [] env))):=by intros;rfl)
  (h2:∀ env,starEach [.Constant (.int 2) k2 p4,ex] env=[(false,eval (.Constant (.int 2) k2 p4) env),(false,eval ex env)]:=by intros;rfl) :
  SX (wfn (WL h0 w os scr so sz ok) scr) sc (xmm x) (.Call (.Name iC p1) [.Constant (.int 1) k1 p2,.Call (.Name mT p3) [.Constant (.int 2) k2 p4,ex] [] p5] [] p6):=fun r d A fs env f ι H s k e h t=>by
 have dn:∀ n∈[iC,mT],(n == ("__debug__" : Str))=false:=by decide +kernel
 have hA:=h.ar.handled
 show wpAny _ _ (do callWith p6 (← eval (.Name iC p1) env) [] (backTo p6 (starEach [.Constant (.int 1) k1 p2,.Call (.Name mT p3) [.Constant (.int 2) k2 p4,ex] [] p5] env)) (backToKw p6 (keywordEach [] env))) _ _ s
 refine wpAny_bind (cU h.eo h.st.ground g1 (nS O (.head _) (aq (by kernel_rfl))) (dn _ (.head _)) ?_)
 refine Calls.callWith_builtin (by rfl) (Calls.evalArgs_plain (Calls.spliced_cons (wpAny_Constant_int (k:=k1) (pos:=p2) (Calls.spliced_cons ?_))))
 rw[h1]
 refine wpAny_bind (cU h.eo h.st.ground g2 (nS O (.tail _ (.head _)) (aq (by kernel_rfl))) (dn _ (.tail _ (.head _))) ?_)
 refine Calls.callWith_builtin (by rw[h2];rfl) ?_
 rw[h2]
 refine Calls.evalArgs_plain (Calls.spliced_cons (wpAny_Constant_int (k:=k2) (pos:=p4) (Calls.spliced_cons (wpAny_mono (hx r d A fs env f ι H _ _ e ⟨h.rt,h.ar,h.eo,h.fr,(h.st.toks _).toks _⟩ t) (fun v s1 P=>?_) fun U U z=>by obtain⟨a,b,c,d,e,f,g,h,i,j⟩:=z;exact⟨a,b,c,d,e,f,g,h,i,j⟩))))
 refine bC fun G=>?_;obtain⟨ι1,H1,y,S1,E1,rv,t⟩:=P
 obtain⟨t1,t⟩:=aa t
 obtain⟨ta,tb⟩:=aa t
 cases y<;>first | exact nf t1 | skip
 obtain⟨u,rfl⟩:=rv.inv;next =>
 apply G;refine Calls.spliced_nil (min_two_ints hA fun h' tk kp=>?_)
 have key:∀ (b:Int)(tb':Tok),b≤2→wpAny (model pw w) A (call (.builtin "max") [.int 1 s.toks,.int b tb']) (PX (wfn (WL h0 w os scr so sz ok) scr) fs noX ι s k) (PE (wfn (WL h0 w os scr so sz ok) scr) fs noX ι s e) { s1 with heap:=h',toks:=tk }:=fun b tb' hb=>by
  refine max_two_ints hA fun h2 tk2 kp2=>?_
  have kk:∀ b o,s1.heap.get? b=some o→h2.get? b=some o:=fun b o g=>kp2 b o (kp b o g)
  have S2:=S1.keeps kk (tk:=tk2) (dr:=s1.drawn)
  have E2:=E1.trans (.of_keeps kk)
  by_cases q:(1:Int) < b
  ·have:b=2:=by omega
   subst this
   refine⟨ι1,H1,.int 2,S2,E2,?_,tb⟩
   rw[if_pos (by decide)];exact .int _ _
  ·refine⟨ι1,H1,.int 1,S2,E2,?_,ta⟩
   rw[if_neg (by omega)];exact .int _ _
 refine Calls.spliced_nil ?_
 split
 ·exact key _ _ (by omega)
 ·exact key _ _ (by simp +arith only)
end
section
def okI (v:Vl):Bool:=nat? v fun i=>Nat.ble i 1
def okF (f:Fm):Bool:=nq f 0 fun a=>wL a&&nq f 1 okI
def CA (g:Hp→Bool):CS:=fun U f H kn U U U=>okF f&&(g H&&kn f H)
noncomputable def rNo:Rt:=fun U U U U U=>false
def C3 (n:Nat)(g:Hp→Bool):CS:=n9 (Ab (cV 1) (EZ (xmm (Cj n))) (CA g)) (kg (xk (.bool true)))
noncomputable def FL:Fm:=.mk [.fn 0,.unset] [0]
def GR (n:Nat)(g:Hp→Bool):Bool:=C3 n g rNo FL Hc (fun U U=>false) (fun U U=>false) isT (fun U U U=>false)
end
theorem FZ (n:Nat)(g:Hp→Bool):GR n g=((g Hc&&true)&&(g Hc&&(g Hc&&true))):=by kernel_rfl
theorem xK (h:g Hc=true):GR n g=true:=by rw[FZ,h];rfl
section
variable {W W':Wd}{fs:List Env}{s:Shared}{c:Addr}
theorem St.swap (S:St W fs (io1 (c,c)) Hc s)(S':St W' fs I0 H0 s)(hs:W'.src=W.src)(hb:W'.base=W.base):St W' fs (io1 (c,c)) Hc s:=by
 obtain⟨_,o,ov,g,k,d,_⟩:=S.ro (k:=0) (p:=(c,c)) (o:=.cell .unset) rfl rfl
 obtain⟨cb,cf⟩:=S.fresh c (.inr ⟨0,(c,c),rfl,.inl rfl⟩)
 exact S'.own (p:=(c,c)) (o:=.cell .unset) ⟨rfl,o,ov,g,k,d,.inl rfl⟩ rfl g (by show o.cls≠_;rw[k];decide) (hb▸cb) cf (hs▸(S.aF 0 (c,c) rfl).1)
theorem St.xn (S:St W fs ι Hc s)(e:ι j=some p):ι=io1 (p.1,p.1)∧p=(p.1,p.1):=by
 have z:∀ {k q},ι k=some q→k=0:=fun {k q} e=>Nat.lt_one_iff.mp (S.dom k q e).1
 obtain rfl:=z e
 obtain⟨h,_⟩:=S.ro (o:=.cell .unset) e rfl
 have hp:p=(p.1,p.1):=Prod.ext rfl h
 refine⟨funext fun k=>?_,hp⟩
 cases k with
 | zero=>rw[← hp];exact e
 | succ k =>
  cases q:ι (k+1) with
  | none=>rfl
  | some x=>exact absurd (z q) (Nat.succ_ne_zero k)
end
section
variable {h0:Heap}{w:World}{os:OsState}{scr:Addr}{so:Obj}{sz:List Nat}{ok:(∀ z∈sz,1≤z∧z≤4)∧sz.length≤8}
theorem Fu (h:okF f=true):∃ x i,f.s[0]? = some (.fn x)∧f.s[1]? = some (.int (.ofNat i))∧i≤1:=by
 refine bC fun G=>?_;refine eE1 (fun a=>aA3 fun ha U h=>?_) (dZ h)
 obtain⟨h1,h⟩:=aa h
 obtain⟨x,rfl⟩:=pR h1
 refine eE1 (fun b=>aA3 fun hb U h=>?_) (dZ h)
 refine eE1 (fun i=>aA2 fun z9q1 h=>?_) (bG h);obtain rfl:=z9q1
 apply G;exact⟨x,i,ha,hb,bS h⟩
theorem BP (O:Obs h0)(R:Runs){items:Array Value}{nn:Nat}(Y:Scr so items nn){sc:Sc}(L:sE sc){e2 e3 e4:Expr}(c2:jT (KH h0) sc e2=true)(c3:jT (KH h0) sc e3=true)(c4:jT (KH h0) sc e4=true){g:Hp→Bool}(hg:∀ H,g H=true→H=Hc)
  {b2 b3 b4:List Stmt}{p1 p2 p3 p4 p5 p6 p7 p8 p9:Pos}:wY (wfn (WL h0 w os scr so sz ok) scr) sc rNo 60 (CA g) (.Assign [.Name bD p1] (.Call (.Name lK p2) [.Name ax p3,.Name nK p4] [] p5) p6 :: .If e2 b2 [] p7 :: .If e3 b3 [] p8 :: .If e4 b4 [] p9 :: []):=fun A fs env f ι H s kn kc kr ke h t=>by
 refine bC fun G=>?_;obtain⟨t1,t⟩:=aa t
 obtain⟨t2,t⟩:=aa t
 obtain rfl:=hg H t2
 refine eE2 (fun x i=>aA3 fun f0 f1 hi=>?_) (Fu t1)
 refine eE3 (fun j c d=>aA3 fun U e2' e3'=>?_) (h.fr.cells 0 bD (by rw[L.ce];rfl) (.inl L.lc))
 obtain⟨rfl,hp⟩:=h.st.xn e2'
 obtain rfl:c=d:=(congrArg Prod.snd hp).symm
 refine eE1 (fun m=>aA2 fun hm sl=>?_) (h.fr.ns)
 refine eE1 (fun v1=>aA2 fun hv1 r1=>?_) ((sl 0 _ _ L.s0 f0).resolve_left (fun z=>Vl.noConfusion z))
 refine eE1 (fun v2=>aA2 fun hv2 r2=>?_) ((sl 1 _ _ L.s1 f1).resolve_left (fun z=>Vl.noConfusion z))
 obtain rfl:=wd r1
 obtain⟨tk,rfl⟩:∃ t',v2 = .int (.ofNat i) t':=by obtain⟨t',rfl⟩:=r2.inv;exact⟨t',rfl⟩
 have S:=h.st
 apply G;refine wpAny_mono (uv (w:=w) (os:=os) (ok:=ok) O R Y L c2 c3 c4 (m:=m) h.ar ⟨h.eo.names,h.eo.kind,h.eo.globals,h.eo.builtins,h.eo.frame,h.eo.code⟩ (S.swap S.ofFn rfl rfl) e3' h.fr.nb (fun z=>h.fr.no (.inl z)) (fun z=>h.fr.no (.inr ⟨0,_,rfl,.inl z⟩)) hm hv1 hv2 hi) (fun fl s1 P=>?_) fun U U z=>z
 revert P;refine aA3 fun z21q0 S1 E1=>?_;obtain rfl:=z21q0
 have E2:Ext (wfn (WL h0 w os scr so sz ok) scr) noX (io1 (c,c)) s.heap (io1 (c,c)) s1.heap:=⟨E1.sub,E1.tk,E1.keep,E1.dom,E1.new⟩
 exact⟨_,_,_,S1.swap S1.BN rfl rfl,E2.atl,h.fr.ext E2 id,t⟩
end
section
def HM:Option Txt:=kA nh none
noncomputable def yV (t:Txt):Sc:=bI 0 false t.scope .none (aJ 0) []
noncomputable def BM (t:Txt):List Expr:=((aY t.body).drop 1).take 1 |>.flatMap fun s=>((sv s).b1.drop 1).map fun s=>(sv s).e
end
def yj (K:Frag)(i:Nat):Bool:=HM.any fun t=>((BM t)[i]?).any fun e=>jT K (yV t) e
theorem t0 (K:Frag):yj K 0=true:=by kernel_rfl
theorem t1 (K:Frag):yj K 1=true:=by kernel_rfl
theorem t2 (K:Frag):yj K 2=true:=by kernel_rfl
section
def CF (x:CX):CX:=xP (zE tC (xk (.fn 119)) (bz x eE))
def CK (n:Nat):CX:=rg Ed (AS (bz (xk (.int 2)) eE)) (xk (.int (.ofNat n)))
def x0:CX:=xor (CF (CK 8)) (CF (rg DX (CK 7) (AS (bz (xk (.int 3)) eE))))
theorem Fg:x0 rc F1 Hc (fun v h=>ifV v false (eV Hc h)) noE=true:=by kernel_rfl
end
noncomputable def fZ:Str:=Str.ofString "_law_ways_right"
noncomputable def rW:Str:=Str.ofString "range"
section
variable {h0:Heap}{w:World}{os:OsState}{src:Addr}{on:Option Obj}{sz:List Nat}{ok:(∀ z∈sz,1≤z∧z≤4)∧sz.length≤8}
theorem Ii (O:Obs h0)(hW:W=mkW h0 w os src on sz ok)(hn:∀ p,SX W sc (xk (.fn 119)) (.Name fZ p)):ST W sc x0 (.BoolOp .Or [.UnaryOp .Not (.Call (.Name fZ a1) [.BinOp (.List [.Constant (.int 2) k1 a2] a3) .Mult (.Constant (.int 8) k2 a4) a5] [] a6) a7,
  .UnaryOp .Not (.Call (.Name fZ b1) [.BinOp (.BinOp (.List [.Constant (.int 2) k3 b2] b3) .Mult (.Constant (.int 7) k4 b4) b5) .Add (.List [.Constant (.int 3) k5 b6] b7) b8] [] b9) b10] a0):=by
 subst hW
 have ok':WOk (mkW h0 w os src on sz ok) tC:=(xE O).wok
 refine wD (vQ (sA (cK (nJ ok' pF (hn _) (fN (cm (nR (jQ (cm gF eC)) gF pZ) eC)))))
  (lM (sA (cK (nJ ok' pF (hn _) (fN (cm (nR (nR (jQ (cm gF eC)) gF pZ) (jQ (cm gF eC)) pL) eC)))))))
end
structure Cr (sc:Sc):Prop where
 l:sc.names.lookup iU=some .globalImplicit
 a:sc.names.lookup iC=some .globalImplicit
 i:sc.names.lookup mT=some .globalImplicit
 r:sc.names.lookup rW=some .globalImplicit
 w:sc.names.lookup fZ=some .globalImplicit
 d:sc.slots.Nodup
def JD (H:Hp):Bool:=@decide (H=Hc) (Classical.propDecidable _)
section
variable {h0:Heap}{w:World}{os:OsState}{scr c:Addr}{so:Obj}{sz:List Nat}{ok:(∀ z∈sz,1≤z∧z≤4)∧sz.length≤8}
theorem zM (O:Obs h0)(hW:W=mkW h0 w os src on sz ok)(g:sc.names.lookup fZ=some .globalImplicit)(p:Pos):SX W sc (xk (.fn 119)) (.Name fZ p):=by
 subst hW
 have is:ag fZ 37021367247164139367741135550047:=aq (by kernel_rfl)
 refine eE1 (fun v=>aA2 fun nv rv=>?_) ((xE (w:=w) (os:=os) (src:=src) (on:=on) (sz:=sz) (ok:=ok) O).name fZ _ (.fn 119) is (by kernel_rfl))
 exact fun r d A fs env f ι H s kk e hh t=>cU hh.eo hh.st.ground g nv (by decide +kernel) (hh.px (rv _ _ _ _ hh.st) t)
theorem xo (O:Obs h0)(R:Runs){items:Array Value}{nn:Nat}(Y:Scr so items nn){sc:Sc}(L:sE sc)(G:Cr sc){e2 e3 e4:Expr}(c2:jT (KH h0) sc e2=true)(c3:jT (KH h0) sc e3=true)(c4:jT (KH h0) sc e4=true){A:Around}{fs:List Env}{env:Env}{s:Shared}
  (ar:Ar A fs 60)(eo:bR (WL h0 w os scr so sz ok) sc env fs)(S:St (wfn (WL h0 w os scr so sz ok) scr) fs (io1 (c,c)) Hc s)(F:aS (wfn (WL h0 w os scr so sz ok) scr) sc env (io1 (c,c)) s.heap FL)
  {b1 b2 b3 b4:List Stmt}{p1 p2 p3 p4 p5 p6 p7 p8 p9 q1 q2 q3 q4 q5 q6 q7 q8 q9 r1 r2 r3 r4 r5 r6 r7:Pos}{a1 a2 a3 a4 a5 a6 a7 d1 d2 d3 d4 d5 d6 d7 d8 d9 d10 a0:Pos}{k1 k2 k3 k4 k5 k6 k7 k8:Nat} :
  wpAny (model pw w) A (execs [.If (.BoolOp .Or [.UnaryOp .Not (.Call (.Name fZ a1) [.BinOp (.List [.Constant (.int 2) k1 a2] a3) .Mult (.Constant (.int 8) k2 a4) a5] [] a6) a7,
    .UnaryOp .Not (.Call (.Name fZ d1) [.BinOp (.BinOp (.List [.Constant (.int 2) k3 d2] d3) .Mult (.Constant (.int 7) k4 d4) d5) .Add (.List [.Constant (.int 3) k5 d6] d7) d8] [] d9) d10] a0) b1 [] q1,
   .For (.Name nK q2) (.Call (.Name rW q3) [.Call (.Name iC q4) [.Constant (.int 1) k6 q5,.Call (.Name mT q6) [.Constant (.int 2) k7 q7,.Call (.Name iU q8) [.Name ax q9] [] r1] [] r2] [] r3] [] r4)
    [.Assign [.Name bD p1] (.Call (.Name lK p2) [.Name ax p3,.Name nK p4] [] p5) p6,.If e2 b2 [] p7,.If e3 b3 [] p8,.If e4 b4 [] p9] [] r5,
   .Return (some (.Constant (.bool true) k8 r6)) r7] env) (fun fl s'=>∃ ι' H',fl = .ret (.bool true)∧St (wfn (WL h0 w os scr so sz ok) scr) fs ι' H' s'∧Ext (wfn (WL h0 w os scr so sz ok) scr) (atL env) (io1 (c,c)) s.heap ι' s'.heap) (fun U U=>False) s:=by
 have F1':aS (WL h0 w os scr so sz ok) sc env (io1 (c,c)) s.heap F1:=by
  refine eE1 (fun m=>aA2 fun hm U=>?_) (F.ns)
  refine⟨F.no,F.nb,⟨m,hm,fun i n x U g=>.inl ?_⟩,F.cells⟩
  match i,g with
  | 0,g=>exact(ab g).symm
  | 1,g=>exact(ab g).symm
  | _+2,g=>exact nomatch g
 have S1:St (WL h0 w os scr so sz ok) fs (io1 (c,c)) Hc s:=S.swap S.ofFn rfl rfl
 have h1:Here (WL h0 w os scr so sz ok) sc rc 60 A fs env F1 (io1 (c,c)) Hc s:=⟨Ci O R,ar,eo,F1',S1⟩
 refine wpAny_execs_cons (wpAny_If (wpAny_mono (Ii (w:=w) (os:=os) (ok:=ok) O rfl (zM O rfl G.w) rc 60 A fs env F1 (io1 (c,c)) Hc s (fun U=>false) (eV Hc) noE h1 Fg) (fun b s1 P=>?_) fun v s1 P=>?_))
 ·obtain⟨ι',H',S',E',t⟩:=P
  cases b with
  | true=>exact nf t
  | false =>
   obtain⟨S2,E2⟩:=S1.shrink S' E' fun k o g=>cB (H:=Hc) (H':=H') t g
   refine wpAny_execs_nil ?_
   have E3:Ext (wfn (WL h0 w os scr so sz ok) scr) noX (io1 (c,c)) s.heap (io1 (c,c)) s1.heap:=⟨E2.sub,E2.tk,E2.keep,E2.dom,E2.new⟩
   have T:wY (wfn (WL h0 w os scr so sz ok) scr) sc rNo 60 (C3 items.size JD) [.For (.Name nK q2) (.Call (.Name rW q3) [.Call (.Name iC q4) [.Constant (.int 1) k6 q5,.Call (.Name mT q6) [.Constant (.int 2) k7 q7,.Call (.Name iU q8) [.Name ax q9] [] r1] [] r2] [] r3] [] r4)
     [.Assign [.Name bD p1] (.Call (.Name lK p2) [.Name ax p3,.Name nK p4] [] p5) p6,.If e2 b2 [] p7,.If e3 b3 [] p8,.If e4 b4 [] p9] [] r5,.Return (some (.Constant (.bool true) k8 r6)) r7]:=
    jc (mO (tn:=False) (wG G.r (eA O (.tail _ (.tail _ (.head _))) (aq (by kernel_rfl))).1 (eA O (.tail _ (.tail _ (.head _))) (aq (by kernel_rfl))).2 (by decide +kernel) (fN (cm (Gj O G.a G.i (AO O Y L.s0 L.l0 G.l)) eC)) (by intros;rfl))
     (y5 G.d L.s1 L.l1) (BP O R Y L c2 c3 c4 fun H z=>@au _ (Classical.propDecidable _) z) (fun z=>z.elim) (by intros;rfl)) (tT (vU oh) rNo 60)
   have h3:Here (wfn (WL h0 w os scr so sz ok) scr) sc rNo 60 A fs env FL (io1 (c,c)) Hc s1:=⟨(fun U U U U U U U U U U U U U U U z=>nomatch z),ar,⟨eo.names,eo.kind,eo.globals,eo.builtins,eo.frame,eo.code⟩,F.ext E3 id,S2.swap S2.BN rfl rfl⟩
   refine wpAny_mono (T A fs env FL (io1 (c,c)) Hc s1 (fun U U=>false) (fun U U=>false) isT (fun U U U=>false) h3 (xK (@decide_eq_true _ (Classical.propDecidable _) rfl))) (fun fl s4 P=>?_) fun v s4 P=>?_
   ·obtain⟨ι4,H4,f4,S4,E4,F4,t⟩:=P
    cases fl with
    | next=>exact nf t
    | cont=>exact nf t
    | brk=>exact t.elim
    | ret v =>
     revert t;refine eE1 fun x=>aA2 fun rv t=>?_
     exact⟨ι4,H4,congrArg Flow.ret (nA rv t),S4,E3.atl.trans E4⟩
   ·obtain⟨_,_,_,_,_,_,_,_,_,_,_,t⟩:=P
    exact nf t
 ·obtain⟨_,_,_,_,_,_,_,_,_,t⟩:=P
  exact nf t
end
theorem ok:(∀ z∈([]:List Nat),1≤z∧z≤4)∧([]:List Nat).length≤8:=⟨(fun U m=>nomatch m),Nat.zero_le _⟩
section
variable {h0:Heap}{w:World}{scr:Addr}{so:Obj}{s:Shared}
theorem Bl (k:∀ b o,h0.get? b=some o→h1.get? b=some o)(st:∃ o,h0.get? cStatics=some o)(K:OldK h0 h)(all:∀ b o,h1.get? b=some o→h.get? b=some o∨h0.get? b=some o):OldK h1 h:=by
 refine⟨fun b o g=>?_,fun b o g=>?_⟩
 ·rcases all b o g with z | z
  ·exact .inl z
  ·rcases K.old b o z with x | ⟨⟨c,oc,vs,a1,a2,a3,a4⟩,x⟩| ⟨rfl,hc,hx,y⟩
   ·exact .inl x
   ·exact .inr (.inl ⟨⟨c,oc,vs,k _ _ a1,a2,a3,a4⟩,x⟩)
   ·refine .inr (.inr ⟨rfl,hc,hx,fun key=>?_⟩)
    obtain⟨o',g'⟩:=st
    rw[OldK.staticOf_congr ((k _ _ g').trans g'.symm) key]
    exact y key
 ·rcases all b o g with z | z
  ·exact⟨o,z⟩
  ·exact K.there b o z
theorem law_code (O:Obs h0)(R:Runs){items:Array Value}{nn:Nat}(Y:Scr so items nn)(k:∀ b o,h0.get? b=some o→s.heap.get? b=some o)(hg:s.gens=#[])(gs:s.heap.get? scr=some so)(hn:h0.get? scr=none)(all:∀ b o,s.heap.get? b=some o→b=scr∨h0.get? b=some o) :
  codeAny (model pw w) callerA (.call (.ref iW) ⟨[.ref scr],[]⟩) (fun r s'=>r = .ok (.ret (.bool true))∧OldK s.heap s'.heap∧s'.os=s.os∧s'.gens=#[]) s:=by
 refine bC fun J=>?_;refine eE4 (fun fd oc od osl=>aA4 fun hK hk' P ht=>?_) (O.fn (a:=iW) (p:=(nh,none)) (.tail _ (.tail _ (.tail _ (.head _)))) (.tail _ (.tail _ (.tail _ (.head _)))) rfl)
 have hdf:=O.none (.tail _ (.tail _ (.tail _ (.head _)))) hK
 have e1:fd.params=_:=congrArg Txt.params ht
 have e2:fd.body=_:=congrArg Txt.body ht
 have e3:fd.scope=_:=congrArg Txt.scope ht
 have S:St (wfn (WL h0 w s.os scr so [] ok) scr) [] I0 H0 s:=(zP (w:=w) (os:=s.os) (src:=scr) (on:=some so) (sz:=[]) (ok:=ok) O k hg rfl gs ⟨(by rw[Y.is];exact(show Value.type "list"≠.type "code" from by decide)),(fun z=>nomatch z),fun x e=>ab e⟩ hn).BN
 have en:eO (wfn (WL h0 w s.os scr so [] ok) scr) (bI 0 false fd.scope fd.code fd.qualname []) fd [] [bD] [ax] 2 1 [cV 0] [] iK:=by
  have:=yR (W:=wfn (WL h0 w s.os scr so [] ok) scr) (hid:=0) (fd:=fd) (ps:=[cV 0]) (top:=false) (free:=[]) (df:=[]) (b:=iK) (by rw[e3];kernel_rfl) (by rw[e1];kernel_rfl) P.gl P.bi (by unfold bI;rw[e1,e3];kernel_rfl) (Nat.zero_le _) (.inr P.cL) (fun ι s U U=>dW hdf ι s) (.inl ⟨_,e2,nX⟩)
  rw[show ownOf fd.scope=[bD] from by rw[e3];kernel_rfl,show(aP 0 fd.scope).length=2 from by rw[e3];kernel_rfl,show fd.params.args.map (·.arg)=[ax] from by rw[e1];kernel_rfl] at this
  exact this
 have hcd:=P.code
 have hs:(bI 0 false fd.scope fd.code fd.qualname []).names=fd.scope.names:=rfl
 have L:sE (bI 0 false fd.scope fd.code fd.qualname []):=by
  refine⟨?_,?_,?_,?_,?_,?_,?_⟩
  ·show(aP 0 fd.scope)[0]? = _;rw[e3];kernel_rfl
  ·show(aP 0 fd.scope)[1]? = _;rw[e3];kernel_rfl
  ·show[]++ownOf fd.scope=_;rw[e3];kernel_rfl
  all_goals (rw[hs,e3];kernel_rfl)
 have G:Cr (bI 0 false fd.scope fd.code fd.qualname []):=by
  refine⟨?_,?_,?_,?_,?_,en.nd⟩
  all_goals (rw[hs,e3];kernel_rfl)
 refine eE1 (fun T0=>aA2 fun hT0 j0=>?_) (any_some (t0 (KH h0)))
 refine eE1 (fun T1=>aA2 fun hT1 j1=>?_) (any_some (t1 (KH h0)))
 refine eE1 (fun T2=>aA2 fun hT2 j2=>?_) (any_some (t2 (KH h0)))
 refine eE1 (fun x0=>aA2 fun hx0 j0=>?_) (any_some j0)
 refine eE1 (fun x1=>aA2 fun hx1 j1=>?_) (any_some j1)
 refine eE1 (fun x2=>aA2 fun hx2 j2=>?_) (any_some j2)
 have eT:∀ {T},HM=some T→yV T=bI 0 false fd.scope fd.code fd.qualname []:=fun {T} h=>by
  have:T.scope=fd.scope:=by rw[e3];exact congrArg Txt.scope (ab (h.symm.trans rfl))
  unfold yV bI
  rw[this];rfl
 rw[eT hT0] at j0
 rw[eT hT1] at j1
 rw[eT hT2] at j2
 obtain rfl:=ab (hT0.symm.trans hT1)
 obtain rfl:=ab (hT0.symm.trans hT2)
 have hT:some (Txt.mk _ _ _)=some T0:=hT0
 replace hT:=ab hT;subst hT
 have hx:some _=some x0:=hx0
 replace hx:=ab hx;subst hx
 have hx:some _=some x1:=hx1
 replace hx:=ab hx;subst hx
 have hx:some _=some x2:=hx2
 replace hx:=ab hx;subst hx
 apply J;refine fK (r:=rNo) (xs:=[.fn 0]) (K:=isAt FL Hc) en (by decide +kernel) S (S.ground _ _ hK) rfl (codeRec_of S.ground hcd) (js:=[]) (.inl rfl) (fun i n z=>by exact zns z) (.cons (.fn rfl) .nil) (by simp) (by simp) (fQ _ _) e2 fun env s2 P=>?_
 refine bC fun J=>?_;obtain⟨f',ι',H',S2,E2,F2,eo,l0,tk⟩:=P
 obtain⟨rfl,rfl⟩:=fP tk
 refine eE3 (fun j c d=>aA3 fun U ej U=>?_) (F2.cells 0 bD (by rw[L.ce];rfl) (.inl L.lc))
 obtain⟨rfl,hp⟩:=S2.xn ej
 have ar:Ar (callerA.deeper env) [env] 60:=⟨rfl,rfl,bS rfl,bS rfl⟩
 apply J;refine codeAny_func (wpAny_mono (xo (w:=w) (os:=s.os) (ok:=ok) O R Y L G j0 j1 j2 ar ⟨eo.names,eo.kind,eo.globals,eo.builtins,eo.frame,eo.code⟩ S2 F2) (fun fl s3 P=>?_) fun U U z=>z.elim)
 refine bC fun J=>?_;revert P;refine eE2 fun ι3 H3=>aA3 fun z15q2 S3 E3=>?_;obtain rfl:=z15q2
 have E:=((E2.weaken fun U z=>z.elim).trans E3).drop (X:=noX) fun b z=>.inr (by rw[show b=env.locals from z];exact l0)
 apply J;refine⟨rfl,Bl k (let ⟨_,⟨o,_,_,g,_⟩,_⟩:=(fR O.base).lim;⟨o,g⟩) S3.old fun b o g=>?_,S3.os,S3.gens⟩
 rcases all b o g with rfl | z
 ·exact .inl ((S3.ofFn.kW).trans (gs.symm.trans g))
 ·exact .inr z
end
theorem Obs.HQ (O:Obs h):h.nsMap mainGlobals "law" = some (.ref iW):=au O.Js
theorem items_int:WShape.hasItems [] xs .int=true→∃ zs:List Int,xs=zs.map WData.int:=by
 induction xs with
 | nil=>exact fun U=>⟨[],rfl⟩
 | cons x xs ih =>
  intro h
  obtain⟨h1,h2⟩:=aa h
  obtain⟨i,rfl⟩:=hasW_int h1
  obtain⟨zs,rfl⟩:=ih h2
  exact⟨i :: zs,rfl⟩
theorem vz {cl:Str→Option Addr}{h:Heap}:∀ {zs:List Int}{vs:List Value}{as:List Addr},ReadsAllW [] cl h vs (zs.map WData.int) as→(∀ v∈vs,∃ x t,v = .int x t∧x∈zs)∧vs.length=zs.length:=by
 intro zs
 induction zs with
 | nil=>exact fun {vs as} r=>(readsAllW_nil_inv r).1▸⟨fun v m=>absurd m List.not_mem_nil,rfl⟩
 | cons z zs ih =>
  intro vs as r
  obtain⟨v,vs,a,b,rfl,e,r1,r2⟩:=readsAllW_cons_inv r
  obtain⟨t,rfl,_⟩:=readsW_int_inv r1
  obtain⟨a,b⟩:=ih r2
  refine⟨fun v m=>?_,congrArg (·+1) b⟩
  refine oO (fun m=>?_) (fun m=>?_) (List.mem_cons.mp m)
  ·exact⟨z,t,m,.head _⟩
  ·refine eE2 (fun x t=>aA2 fun e m=>?_) (a v m);exact⟨x,t,e,.tail _ m⟩
theorem weigh {zs:List Int}{n:Nat}:WData.weightAll (zs.map WData.int)≤n→∀ z∈zs,z.natAbs.log2≤n:=by
 induction zs with
 | nil=>exact fun U z m=>nomatch m
 | cons z zs ih =>
  intro h x m
  have h:(if z == 0 then 0 else z.natAbs.log2+1)+1+WData.weightAll (zs.map WData.int)≤n:=h
  cases m with
  | head =>
   by_cases bY:z=0
   ·subst bY;rw[show(0:Int).natAbs.log2=0 from by decide +kernel];exact Nat.zero_le _
   ·rw[if_neg (by simpa using bY)] at h;exact fS h (by simp +arith only)
  | tail _ m=>exact ih (fS h (by simp +arith only)) x m
theorem ofPys_ints (zs:List Int):ofPys (zs.map PyData.int)=zs.map WData.int:=by
 induction zs with
 | nil=>rfl
 | cons z zs ih=>exact congrArg (WData.int z :: ·) ih
theorem uP {w:World}{s₀ s₁ : Shared}{zs:List Int}{a:Addr}{as:List Addr}(L:Laid [] w s₀ s₁ [ofPy (PyData.list (zs.map PyData.int))] [.ref a] as):∃ o,s₁.heap=s₀.heap.push o:=by
 refine eE1 (fun ord=>aA2 fun U e=>?_) (L.laid)
 simp only[ofPy,layAllW,layW] at e
 cases bY:layAllW [] (classAt s₀.heap) w.params ord (ofPys (List.map PyData.int zs)) s₀ with
 | none=>rw[bY] at e;(first | exact nf e | exact ns e | cases e)
 | some r =>
  rw[bY] at e
  simp only[Option.some.injEq,Prod.mk.injEq] at e
  exact⟨_,by rw[← e.2,← X.lay_ints zs s₀ r bY]⟩
theorem Bn {h:Heap}{x o:Obj}{b:Addr}(e:(h.push x).get? b=some o):b=h.objs.size∨h.get? b=some o:=by
 by_cases bY:b=h.objs.size
 ·exact .inl bY
 ·refine .inr ?_
  unfold Heap.get? Heap.push at *
  rwa [Array.getElem?_push,if_neg bY] at e
theorem vk {w:World}{s₀ s₁ : Shared}{zs:List Int}{vals:List Value}{as:List Addr}(L:Laid [] w s₀ s₁ [.list (zs.map WData.int)] vals as):∃ vs:Array Value,vals=[.ref s₀.heap.objs.size]∧(∃ o,s₁.heap=s₀.heap.push o) ∧
  s₁.heap.get? s₀.heap.objs.size=some { cls:=.type "list",data:=.seq vs }∧(∀ v∈vs.toList,∃ x t,v = .int x t∧x∈zs)∧vs.size=zs.length:=by
 have hrd:=L.reads
 obtain⟨v,vs,a,b,rfl,_,r1,r2⟩:=readsAllW_cons_inv hrd
 obtain⟨rfl,_⟩:=readsAllW_nil_inv r2
 obtain⟨a,vs,as',rfl,l,rd,_⟩:=readsW_list_inv r1
 rw[← show ofPy (PyData.list (zs.map PyData.int)) = .list (zs.map WData.int) from congrArg WData.list (ofPys_ints zs)] at L
 obtain⟨rfl,_⟩:=X.script_at L
 obtain⟨r1,r2⟩:=vz rd
 exact⟨vs,rfl,uP L,X.script_obj L l,r1,r2⟩
theorem FR (h:cl.pre args=true):∃ zs:List Int,args=[.list (zs.map WData.int)]∧zs.length≤63:=by
 obtain⟨hs,hp⟩:=pre_splitW (r:=rwl.row.toRowW) h
 have hs:WShape.hasAll [] args [.list .int]=true:=hs
 refine eE2 (fun x r=>aA3 fun z8q2 h1 h2=>?_) (hasAllW_cons hs);obtain rfl:=z8q2
 obtain rfl:=hasAllW_nil h2
 refine eE1 (fun xs=>aA2 fun z10q1 h3=>?_) (hasW_list h1);obtain rfl:=z10q1
 obtain⟨zs,rfl⟩:=items_int h3
 refine⟨zs,rfl,?_⟩
 have e:(WTm.not (.lt (.lit (.int 63)) (.len (.arg 0)))).value [] { args:=[.list (zs.map WData.int)] }=some (.bool (!decide ((63:Int) < ((zs.map WData.int).length:Nat)))):=by kernel_rfl
 rw[List.length_map] at e
 exact Int.ofNat_le.mp (Int.not_lt.mp (of_decide_eq_false (bc ((holdsW_of_value e).symm.trans (holds_andW (b:=.lit (.bool true)) hp).1))))
theorem uz (args:List WData)(cls:ExcName):cl.raises args cls=false:=by kernel_rfl
theorem Bz (args:List WData):cl.post args (.bool true) args=true:=by kernel_rfl
theorem wI {h h1:Heap}(O:Obs h)(mg:Str→Option Value)(k:∀ b o,h.get? b=some o→h1.get? b=some o)(T:h1.Ns mainGlobals mg){a:Addr}(hmg:mg rwl.name=some (.ref a)):a=iW:=by
 refine eE3 (fun o' es ep=>aA5 fun g' k' d' q1 q2=>?_) ((fR O.base).g)
 have n0:h1.Ns mainGlobals (h.nsMap mainGlobals):=⟨o',es,ep,k _ _ g',d',q1,q2⟩
 have:=T.eq_nsMap.trans n0.eq_nsMap.symm
 have e:mg "law" = some (.ref a):=hmg
 rw[this,O.HQ] at e
 injection e with e;injection e with e;exact e.symm
theorem AK (said:OpenLaw.wellSaid rwl=true)(run:∀ w os,(rD pw w 11 (some (.ref 6)) 7600 (s0 w os) (topStub pw)).map (l9 pw bY loose xt obs w)=some ((true,openGood bY loose),val))(R:Runs):rwl.Holds:=by
 refine head (obs:=obs) (val:=val) said run fun w s₀ s₁ mg mb G Y args vals as hpre hlay L a hmg=>?_
 have O:Obs s₀.heap:=Ft Y
 have hA:=wI O mg L.keeps G.T.g hmg
 subst hA
 refine eE1 (fun zs=>aA2 fun z13q1 len=>?_) (FR hpre);obtain rfl:=z13q1
 have wt:=(layableW_iff.mp (layableW_arg hlay _ (.head _))).2.2
 have wt:=weigh (show WData.weightAll (zs.map WData.int)≤2 ^ 20 from wt)
 refine eE1 (fun vs=>aA5 fun e sz so r1 r2=>?_) (vk L)
 cases e
 have Y:Scr { cls:=.type "list",data:=.seq vs } vs 0:=⟨rfl,fun v m=>eE2 (fun x t=>aA2 fun e m=>⟨x,t,e,Nat.le_trans (wt x m) (Nat.le_add_right _ _)⟩) (r1 v m),r2▸len⟩
 refine wpAny_call (codeAny_mono (law_code (w:=w) O R Y L.keeps L.gens so (aw (Nat.le_refl _)) fun b o g=>sz.elim fun U z=>Bn (z▸g)) fun r s' z=>?_)
 obtain⟨rfl,z2,z3,z4⟩:=z
 exact⟨.inl ⟨.bool true,.bool true,[],rfl,uz _,.bool _,Bz _,fun U=>⟨List.nodup_nil,fun U m=>nomatch m⟩⟩,z2,z3,.of_eq z4⟩
theorem pN {g:Stmt→Option CS}{s2:Stmt}{l2:List Stmt}{b:CS}(hb:bL g (s2 :: l2)=some b){l1:List Stmt}:∀ {s:Stmt}{a:CS},bL g (s :: l1)=some a→∃ c,bL g (s :: l1++s2 :: l2)=some c∧∀ r f h kn kc kr ke,c r f h kn kc kr ke=a r f h (fun f h=>b r f h kn kc kr ke) kc kr ke:=by
 induction l1 with
 | nil =>
  intro s a ha
  have e:g s=some a:=ha
  refine⟨n9 a b,?_,fun U U U U U U U=>rfl⟩
  show((g s).bind fun a=>(bL g (s2 :: l2)).map (n9 a))=_
  rw[e,hb];rfl
 | cons t l1 ih =>
  intro s a ha
  refine eE1 (fun a0=>aA2 fun e h=>?_) (bnd (show((g s).bind fun a=>(bL g (t :: l1)).map (n9 a))=some a from ha))
  refine eE1 (fun a1=>aA2 fun h1 z=>?_) (aC h);subst z
  refine eE1 (fun c=>aA2 fun h2 h3=>?_) (ih h1)
  refine⟨n9 a0 c,?_,fun r f h kn kc kr ke=>?_⟩
  ·show((g s).bind fun a=>(bL g (t :: l1++s2 :: l2)).map (n9 a))=_
   rw[e,h2];rfl
  ·exact congrArg (fun k=>a0 r f h k kc kr ke) (funext fun f=>funext fun h=>h3 r f h kn kc kr ke)
theorem tB {i n:Nat}(hi:iL XC i=fns.get i)(hs:qO i n=true)(hf:qX i n (bx i n)=true):cM fns 60 (.fn i) [.src] H0 isT (fun U U=>false)=true:=by
 refine eE1 (fun t=>aA2 fun ht hs=>?_) (gr hs)
 refine aA2 (fun q0 q=>?_) (aa hs)
 refine aA2 (fun q1 q=>?_) (aa q)
 refine aA2 (fun q2 q=>?_) (aa q)
 refine aA2 (fun q3 q4=>?_) (aa q)
 have hf:@Option.rec Txt (fun U=>Bool) false (fun t=>@Option.rec (List CT) (fun U=>Bool) false (fun ps=>@Option.rec CS (fun U=>Bool) false (fun a=>aR (ownOf t.scope).length H0 fun cs h=>fc rt9 ps [.src] (lY i) (.mk (aM (aP (dP i) t.scope).length) (jn [] cs)) h fun f h=>a rt9 f h (bx i n) (fun U U=>false) isT (fun U U U=>false)) (bL (gOf i t) ((aY t.body).take n))) (cPs (jr i t.scope) (t.params.args.map (·.arg)))) (gh i)=true:=hf
 have hb:bx i n=fun f h=>@Option.rec Txt (fun U=>Bool) false (fun t=>@Option.rec CS (fun U=>Bool) false (fun b=>b rt9 f h (fun U h=>isT .none h) (fun U U=>false) isT (fun U U U=>false)) (bL (gOf i t) ((aY t.body).drop n))) (gh i):=rfl
 rw[hb,ht] at hf
 have hr:iL XC i=iF XC (jr i t.scope) (dP i) [] (lY i) t:=by
  show(gh i).bind _=_
  rw[ht];rfl
 show @Option.rec Fd (fun U=>Bool) false (fun x=>kG rt9 [] x [.src] H0 isT (fun U U=>false)) (fns.get i)=true
 rw[← hi,hr]
 obtain⟨params,body,scope⟩:=t
 cases body with
 | expr e=>exact nf q1
 | stmts l =>
  have hf:@Option.rec (List CT) (fun U=>Bool) false (fun ps=>@Option.rec CS (fun U=>Bool) false (fun a=>aR (ownOf scope).length H0 fun cs h=>fc rt9 ps [.src] (lY i) (.mk (aM (aP (dP i) scope).length) (jn [] cs)) h fun f h=>a rt9 f h (fun f h=>@Option.rec CS (fun U=>Bool) false (fun b=>b rt9 f h (fun U h=>isT .none h) (fun U U=>false) isT (fun U U U=>false)) (bL (gOf i ⟨params,.stmts l,scope⟩) (l.drop n))) (fun U U=>false) isT (fun U U U=>false)) (bL (gOf i ⟨params,.stmts l,scope⟩) (l.take n))) (cPs (jr i scope) (params.args.map (·.arg)))=true:=hf
  have hc:iF XC (jr i scope) (dP i) [] (lY i) ⟨params,.stmts l,scope⟩=(cPs (jr i scope) (params.args.map (·.arg))).bind fun ps=>(bL (gOf i ⟨params,.stmts l,scope⟩) l).map fun b=>.mk (aP (dP i) scope).length (ownOf scope).length ps (lY i) b :=
   congrArg (fun b=>bif b then(cPs (jr i scope) (params.args.map fun x:Arg=>x.arg)).bind fun ps=>(bL (gOf i ⟨params,.stmts l,scope⟩) l).map fun b=>Fd.mk (aP (dP i) scope).length (ownOf scope).length ps (lY i) b else none) q0
  rw[hc]
  replace q3:(!(l.drop n).isEmpty)=true:=q3
  replace q4:(bL (gOf i ⟨params,.stmts l,scope⟩) (l.drop n)).isSome=true:=q4
  generalize gOf i ⟨params,.stmts l,scope⟩=g at *
  generalize hd:l.drop n=d at *
  cases d with
  | nil=>exact nf q3
  | cons s2 d =>
   obtain⟨b,hb⟩:=Option.isSome_iff_exists.mp q4
   cases hp:cPs (jr i scope) (params.args.map (·.arg)) with
   | none=>rw[hp] at hf;exact nf hf
   | some ps =>
    rw[hp] at hf
    replace hf:@Option.rec CS (fun U=>Bool) false (fun a=>aR (ownOf scope).length H0 fun cs h=>fc rt9 ps [.src] (lY i) (.mk (aM (aP (dP i) scope).length) (jn [] cs)) h fun f h=>a rt9 f h (fun f h=>@Option.rec CS (fun U=>Bool) false (fun b=>b rt9 f h (fun U h=>isT .none h) (fun U U=>false) isT (fun U U U=>false)) (bL g (s2 :: d))) (fun U U=>false) isT (fun U U U=>false)) (bL g (l.take n))=true:=hf
    rw[hb] at hf
    cases ha:bL g (l.take n) with
    | none=>rw[ha] at hf;exact nf hf
    | some a =>
     rw[ha] at hf
     have hl:l.take n++s2 :: d=l:=by rw[← hd];exact List.take_append_drop n l
     cases hk:l.take n with
     | nil =>
      rw[hk] at hl
      cases n with
      | zero=>exact nf q2
      | succ n=>rw[← hl] at hk;cases hk
     | cons s l1 =>
      rw[hk] at ha hl
      refine eE1 (fun c=>aA2 fun h1 h2=>?_) (pN hb ha)
      rw[hl] at h1
      rw[h1]
      refine Eq.trans ?_ hf
      exact congrArg (aR (ownOf scope).length H0) (funext fun cs=>funext fun h=>congrArg (fc rt9 ps [.src] (lY i) (.mk (aM (aP (dP i) scope).length) (jn [] cs)) h) (funext fun f=>funext fun h=>h2 rt9 f h _ _ _ _))
theorem pV {i n m:Nat}(hs:Df i n m=true)(f:Fm)(h:Hp):bx i n f h=AA i n m (bx i (n+m)) f h:=by
 refine eE1 (fun t=>aA2 fun ht hs=>?_) (gr hs)
 refine aA2 (fun q0 q=>?_) (aa hs)
 refine aA2 (fun q1 q=>?_) (aa q)
 refine aA2 (fun q2 q3=>?_) (aa q)
 unfold bx AA
 rw[ht]
 show @Option.rec CS (fun U=>Bool) false (fun b=>b rt9 f h (fun U h=>isT .none h) (fun U U=>false) isT (fun U U U=>false)) (bL (gOf i t) ((aY t.body).drop n))=@Option.rec CS (fun U=>Bool) false (fun a=>a rt9 f h (fun f h=>@Option.rec CS (fun U=>Bool) false (fun b=>b rt9 f h (fun U h=>isT .none h) (fun U U=>false) isT (fun U U U=>false)) (bL (gOf i t) ((aY t.body).drop (n+m)))) (fun U U=>false) isT (fun U U U=>false)) (bL (gOf i t) (((aY t.body).drop n).take m))
 rw[← List.drop_drop]
 generalize (aY t.body).drop n=l at *
 generalize hd:l.drop m=d at *
 generalize hk:l.take m=k at *
 have hl:k++d=l:=by rw[← hd,← hk];exact List.take_append_drop m l
 cases d with
 | nil=>exact nf q2
 | cons s2 d =>
  cases k with
  | nil=>cases m with
   | zero=>exact nf q0
   | succ m=>rw[← hl] at hk;cases hk
  | cons s k =>
   obtain⟨b,hb⟩:=Option.isSome_iff_exists.mp q3
   obtain⟨a,ha⟩:=Option.isSome_iff_exists.mp q1
   refine eE1 (fun c=>aA2 fun h1 h2=>?_) (pN hb ha)
   rw[← hl,h1,ha,hb]
   exact h2 rt9 f h _ _ _ _
theorem uI {σ β γ δ : Type}{X:Option σ}{f : σ→β}{o1 : σ→γ}{o2 : σ→δ}{b : β}{v1 : γ}{v2 : δ}(h1:X.map (fun s=>(f s,o1 s))=some (b,v1))(h2:X.map (fun s=>(f s,o2 s))=some (b,v2)):X.map (fun s=>(f s,(o1 s,o2 s)))=some (b,(v1,v2)):=by
 cases X with
 | none=>exact nomatch h1
 | some s =>
  have e1:=congrArg Prod.snd (ab h1)
  have e2:=congrArg Prod.snd (ab h2)
  have e:=congrArg Prod.fst (ab h1)
  exact congrArg some (congr (congrArg Prod.mk e) (congr (congrArg Prod.mk e1) e2))
theorem BH (w:World)(os:OsState):(rD pw w 11 (some (.ref 6)) 7600 (s0 w os) (topStub pw)).map (l9 pw bY loose xt obs w)=some ((true,openGood bY loose),val):=uI (Gz w os) (Hy w os)
theorem zV {a:Nat}{l:List Nat}(h:nin a l=true):a∈l:=by
 induction l with
 | nil=>exact ft h
 | cons b l ih =>
  have h:(@Bool.rec (fun U=>Bool) (nin a l) true (Nat.beq a b))=true:=h
  cases q:Nat.beq a b with
  | true=>rw[aD q];exact .head _
  | false=>rw[q] at h;exact .tail _ (ih h)
theorem tY {i:Nat}(h:eQ.any (fun p=>Nat.beq p.1 i)=true):iL XC i=fns.get i:=by
 refine eE1 (fun p=>aA2 fun m e=>?_) (List.any_eq_true.mp h)
 rw[← aD e]
 exact List.map_inj_left.mp oP p m
theorem Bf:cM fns 60 (.fn 116) [.src] H0 isT (fun U U=>false)=true:=by
 refine aA2 (fun s1 s2=>?_) (aa we)
 refine tB (n:=4) (tY (by kernel_rfl)) s1 ((vd _).trans ?_)
 have e4:G4 (bx 116 4)=J4 (bx 116 6):=funext fun x=>funext fun a=>funext fun b=>funext fun c=>funext fun d=>(pV s2 _ _).trans (Iz _ x a b c d)
 have e3:G3 (bx 116 4)=J3 (bx 116 6):=funext fun a=>funext fun b=>funext fun c=>(pV s2 _ _).trans (GD _ a b c)
 rw[e4,e3]
 exact Fc (De I8 Jh) (De Jd I5) Jw
theorem As:cM fns 60 (.fn 118) [.src] H0 isT (fun U U=>false)=true:=by
 refine tB (n:=2) (tY (by kernel_rfl)) zb ((uX _).trans ?_)
 exact HS Ji
theorem runs:Runs where
 c:=by
  have key:∀ i∈jD,cM fns 60 (.fn i) [.src] H0 isT (fun U U=>false)=true:=fun i m=>by
   rcases m with _ | ⟨_,_ | ⟨_,_ | ⟨_,_ | ⟨_,_ | ⟨_,m⟩⟩⟩⟩⟩
   ·exact Al
   ·exact BQ
   ·exact Bf
   ·exact BU
   ·exact As
   ·cases m
  exact fun i h=>key i (zV h)
 w:=fun w n w1 n1 n8 h=>by
  refine aA2 (fun a b=>?_) (aI IQ)
  refine aA2 (fun c d=>?_) (aI Jf)
  refine aA2 (fun e f=>?_) (aI JF)
  cases w with
  | zero =>
   rcases n with _ | _ | _ | _ | _ | _ | _ | _ | _ | n
   ·cases n1
   ·exact(aI a).1
   ·exact(aI a).2
   ·exact(aI b).1
   ·exact(aI b).2
   ·exact(aI c).1
   ·exact(aI c).2
   ·exact(aI e).1
   ·exact(aI e).2
   ·exact absurd n8 (Nat.not_le.mpr (Nat.le_add_left 9 n))
  | succ w =>
   obtain rfl:w=0:=Nat.le_zero.mp (Nat.le_of_succ_le_succ w1)
   have h:=h rfl
   rcases n with _ | _ | _ | _ | _ | _ | _ | _ | _ | n
   ·cases n1
   iterate 4 exact absurd h (by decide)
   ·exact(aI d).1
   ·exact(aI d).2
   ·exact(aI f).1
   ·exact(aI f).2
   ·exact absurd n8 (Nat.not_le.mpr (Nat.le_add_left 9 n))
end
end Mine.Internal
theorem PySem.Challenge.cw_sa0459_01_holds : PySem.Challenge.rw_sa0459_01.Holds :=
  Mine.Internal.AK Mine.Internal.yh Mine.Internal.BH Mine.Internal.runs
