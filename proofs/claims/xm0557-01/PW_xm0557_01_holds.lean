import PyProof.Rows.All
import PySem.Syntax
import PySem.Builtin.Int.W1All
import PyProof.ConsumeWalk
import PyProof.NeData
import PyProof.ForRange
import PyProof.P3In
import PyProof.Rows.Walk
import PyProof.Rows.TupTab
import Wide.Seal
import Wide.Once
import OpenK.KMore
import OpenK.KQuick
import OpenK.KLine
import KE.KDictSum
import KE.KDictOf
import KE.KEqDict
import Open.Tops
import Lean
import PySem.Challenge.RW_xm0557_01
set_option Elab.async false
set_option linter.all false
set_option tactic.hygienic false
set_option compiler.extract_closed false
set_option maxRecDepth 100000
namespace Mine
open PySem
section
noncomputable section
theorem dX {α : Type} {l : List α} {i : Nat} {x : α} (h : l[i]? = some x) : i < l.length := (List.getElem?_eq_some_iff.mp h).1
inductive V where
 | none | bool (b : Bool) | int (i : Int) | str (k : Nat) | ae (l : List V) | ref (n : Nat)
mutual
noncomputable def V.beq : V -> V -> Bool
 | .none, b => (match b with | .none => true | _ => false)
 | .bool a, b => (match b with | .bool b => a == b | _ => false)
 | .int a, b => (match b with | .int b => decide (a = b) | _ => false)
 | .str a, b => (match b with | .str b => Nat.beq a b | _ => false)
 | .ae a, b => (match b with | .ae b => V.JC a b | _ => false)
 | .ref a, b => (match b with | .ref b => Nat.beq a b | _ => false)
noncomputable def V.JC : List V -> List V -> Bool
 | [], b => (match b with | [] => true | _ => false)
 | x :: xs, b => (match b with | y :: ys => and (V.beq x y) (V.JC xs ys) | _ => false)
end
theorem FY {a b : Bool} {P Q R : Prop} (h1 : a = true <-> P) (h2 : b = true <-> Q) (k : R <-> P /\ Q) : and a b = true <-> R := by
 cases a
 ·exact ⟨(fun h => nomatch h), fun h => h1.mpr (k.mp h).1⟩
 ·exact ⟨fun h => k.mpr ⟨h1.mp rfl, h2.mp h⟩, fun h => h2.mpr (k.mp h).2⟩
mutual
theorem V.eI : ∀ (a b : V), V.beq a b = true <-> a = b
 | .none, b => by cases b <;> first | exact ⟨fun h => absurd h Bool.false_ne_true, fun h => nomatch h⟩ | exact ⟨fun _ => rfl, fun _ => rfl⟩
 | .bool a, b => by cases b <;> first | exact ⟨fun h => absurd h Bool.false_ne_true, fun h => nomatch h⟩ | exact ⟨fun h => congrArg _ (eq_of_beq h), fun h => V.bool.inj h ▸ BEq.rfl⟩
 | .int _, b => by cases b <;> first | exact ⟨fun h => absurd h Bool.false_ne_true, fun h => nomatch h⟩ | exact ⟨fun h => congrArg _ (of_decide_eq_true h), fun h => decide_eq_true (V.int.inj h)⟩
 | .str _, b => by cases b <;> first | exact ⟨fun h => absurd h Bool.false_ne_true, fun h => nomatch h⟩ | exact ⟨fun h => congrArg _ (Nat.eq_of_beq_eq_true h), fun h => V.str.inj h ▸ Nat.beq_refl _⟩
 | .ae l, b => by cases b <;> first | exact ⟨fun h => absurd h Bool.false_ne_true, fun h => nomatch h⟩ | exact ⟨fun h => congrArg _ ((V.pf l _).mp h), fun h => (V.pf l _).mpr (V.ae.inj h)⟩
 | .ref _, b => by cases b <;> first | exact ⟨fun h => absurd h Bool.false_ne_true, fun h => nomatch h⟩ | exact ⟨fun h => congrArg _ (Nat.eq_of_beq_eq_true h), fun h => V.ref.inj h ▸ Nat.beq_refl _⟩
theorem V.pf : ∀ (a b : List V), V.JC a b = true <-> a = b
 | [], b => by cases b <;> first | exact ⟨fun h => absurd h Bool.false_ne_true, fun h => nomatch h⟩ | exact ⟨fun _ => rfl, fun _ => rfl⟩
 | x :: xs, b => by
  cases b with
  | nil => exact ⟨fun h => absurd h Bool.false_ne_true, fun h => nomatch h⟩
  | cons y ys => exact FY (V.eI x y) (V.pf xs ys) ⟨fun h => List.cons.inj h, fun h => by rw [h.1, h.2]⟩
end
noncomputable instance : DecidableEq V := fun a b => decidable_of_iff (V.beq a b = true) (V.eI a b)
inductive KK where
 | int | str | ae
 deriving DecidableEq
noncomputable def V.a5 : Nat -> V -> Bool
 | _, .int _ => true
 | _, .str _ => true
 | n + 1, .ae l => l.all (V.a5 n)
 | _, _ => false
noncomputable def V.kind : V -> Option KK
 | .int _ => some KK.int
 | .str _ => some KK.str
 | .ae l => if V.a5 6 (.ae l) then some KK.ae else Option.none
 | _ => Option.none
inductive aN where
 | list (xs : List V)
 | dict (kd : KK) (kvs : List (V × V))
 | aF (c : Nat) (fs : List (Nat × V))
 | bq (kvs : List (V × V))
 | ic (xs : List V)
noncomputable instance : DecidableEq aN := fun _ _ => Classical.propDecidable _
noncomputable abbrev ag := List aN
noncomputable abbrev Env := List (Option V)
inductive vF where
 | add | sub | fdiv | mod | pow | band | C3
 deriving DecidableEq
inductive Ak where
 | eq | ne | lt | le | gt | ge | is | yt | bt | d9
 deriving DecidableEq
inductive BF where
 | len | sorted | tuple | all | any | dict
 deriving DecidableEq
set_option genSizeOf false in
set_option genInjectivity false in
set_option genCtorIdx false in
mutual
inductive E where
 | lit (v : V) | aa (k : Nat) | aq (x : Nat) (v : V)
 | neg (a : E) | fQ (o : vF) (a b : E) | not (a : E) | aB (o : Ak) (a b : E)
 | and (es : EL) | or (es : EL) | ite (c a b : E)
 | ae (es : EL) | list (es : EL) | dict (kd : KK) (kvs : List (V × V))
 | ar (e : E) (a : Nat) | sub (e i : E) | yY (e hi : E) | from (e lo : E) | Ql (e : E) (lo hi : Nat)
 | call (f : Nat) (es : EL) | new (c : Nat) (es : EL) | aM (e : E) (m : Nat) (es : EL)
 | fn (b : BF) (e : E) | range (e : E)
 | Jn (x : Nat) (kvs : List (Int × V)) (e d : E) | NP (x : Nat) (kvs : List (Int × V)) (e : E)
 | comp (na : E) (k : Nat) (bO : E) (il : EL)
 | bS
inductive EL where
 | nil | cons (e : E) (es : EL)
end
noncomputable instance : Inhabited E := ⟨.bS⟩
set_option genSizeOf false in
set_option genInjectivity false in
set_option genCtorIdx false in
mutual
inductive S where
 | assign (k : Nat) (e : E) | iB (ks : List Nat) (e : E) | setAttr (o : E) (a : Nat) (e : E) | setItem (o i e : E)
 | lB (o : E) (a : Nat) (op : vF) (e : E) | expr (e : E) | ret (e : E) | nq
 | ite (c : E) (t f : SL) | dK (k : Nat) (bO : E) (b : SL) | while (c : E) (b : SL)
 | delItem (o i : E) | sO (o lo : E) | cont | bS
inductive SL where
 | nil | cons (s : S) (r : SL)
end
noncomputable instance : Inhabited SL := ⟨.nil⟩
set_option genSizeOf false
set_option genInjectivity false
set_option genCtorIdx false in
inductive Flow where
 | next | cont | ret (v : V)
structure aL where
 name : Nat
 cX : Nat
 n4 : Nat
 bk : List V
 body : SL
noncomputable instance : Inhabited aL := ⟨⟨0, 0, 0, [], .nil⟩⟩
structure QI where
 zN : List aL
 cn : Nat -> Option (Option Nat)
 aM : Nat -> Nat -> Option Nat
noncomputable def zz (f : Int -> Int -> Option V) : V -> V -> Option V
 | .int a, y => (match y with | .int b => f a b | _ => none)
 | _, _ => none
noncomputable def QB : V -> V -> Option V
 | .int a, y => (match y with | .int b => some (.int (a + b)) | _ => none)
 | .ae a, y => (match y with | .ae b => if a.length + b.length <= 1000000 then some (.ae (a ++ b)) else none | _ => none)
 | _, _ => none
noncomputable def z8 : vF -> V -> V -> Option V
 | .add, x, y => QB x y
 | .sub, x, y => zz (fun a b => some (.int (a - b))) x y
 | .fdiv, x, y => zz (fun a b => if 0 < b /\ b < 1000000 then some (.int (a.fdiv b)) else none) x y
 | .mod, x, y => zz (fun a b => if 0 < b /\ b < 1000000 then some (.int (a.fmod b)) else none) x y
 | .pow, x, y => zz (fun a b => if a = 2 /\ 0 <= b /\ b <= 64 then some (.int (a ^ b.toNat)) else none) x y
 | .band, x, y => zz (fun a b => some (.int (Builtin.bitAnd a b))) x y
 | .C3, x, y => zz (fun a b => some (.int (Builtin.bitOr a b))) x y
noncomputable def nP : V -> Option Bool
 | .none => some false
 | .bool b => some b
 | .int i => some (decide (i ≠ 0))
 | .ae l => some (!l.isEmpty)
 | _ => none
noncomputable def NW : V -> V -> Option Bool
 | .int a, y => (match y with | .int b => some (decide (a = b)) | _ => none)
 | .str a, y => (match y with | .str b => some (decide (a = b)) | _ => none)
 | .bool a, y => (match y with | .bool b => some (a == b) | _ => none)
 | .ae a, y => if V.a5 6 (.ae a) /\ V.a5 6 y then some (decide (.ae a = y)) else none
 | _, _ => none
noncomputable def bJ (kvs : List (V × V)) (k : V) : Option V := (kvs.find? fun p => p.1 = k).map (·.2)
noncomputable def cP (kvs : List (V × V)) (k v : V) : List (V × V) :=
 if (bJ kvs k).isSome then kvs.map (fun p => if p.1 = k then (p.1, v) else p) else kvs ++ [(k, v)]
noncomputable def sP (kvs : List (V × V)) (k : V) : List (V × V) := kvs.filter fun p => p.1 ≠ k
noncomputable def IB (x : V) : V -> Option Bool
 | .ae l => if V.a5 5 x /\ l.all (V.a5 5) then some (decide (x ∈ l)) else none
 | _ => none
noncomputable def Rn (x : V) : V -> Option Bool
 | .none => some (decide (x = .none))
 | .bool b => (match x with | .bool a => some (a == b) | _ => none)
 | _ => none
noncomputable def It : Option Bool -> Option Bool
 | some b => some (!b)
 | none => none
noncomputable def zA (f : Int -> Int -> Bool) : V -> V -> Option Bool
 | .int a, y => (match y with | .int b => some (f a b) | _ => none)
 | _, _ => none
noncomputable def zX : Ak -> V -> V -> Option Bool
 | .eq, x, y => NW x y
 | .ne, x, y => It (NW x y)
 | .lt, x, y => zA (fun a b => decide (a < b)) x y
 | .le, x, y => zA (fun a b => decide (a <= b)) x y
 | .gt, x, y => zA (fun a b => decide (b < a)) x y
 | .ge, x, y => zA (fun a b => decide (b <= a)) x y
 | .is, x, y => Rn x y
 | .yt, x, y => (match y with | .none => some (!decide (x = .none)) | _ => none)
 | .bt, x, y => IB x y
 | .d9, x, y => It (IB x y)
noncomputable def vI (l : List V) (i : Int) : Option V := if 0 <= i then l[i.toNat]? else if 0 <= i + l.length then l[(i + l.length).toNat]? else none
noncomputable def yr : V -> V -> Option V
 | .ae l, y => (match y with | .int k => vI l k | _ => none)
 | _, _ => none
noncomputable def oJ : List (Nat × V) -> Nat -> V -> List (Nat × V)
 | [], a, v => [(a, v)]
 | (k, x) :: r, a, v => if k = a then (k, v) :: r else (k, x) :: oJ r a v
noncomputable def fW : List V -> Option (List Int)
 | [] => some []
 | x :: r => (match x with | .int i => (fW r).map (i :: ·) | _ => none)
noncomputable def fB (n : Int) : List V := (List.range n.toNat).map fun (i : Nat) => V.int (i : Int)
noncomputable def dq : List V -> Option (List Bool)
 | [] => some []
 | x :: r => (nP x).bind fun b => (dq r).map (b :: ·)
noncomputable def US (b : BF) (v : V) : Option V := match b with
 | .len => (match v with | .ae l => some (.int l.length) | _ => none)
 | _ => none
structure JN where
 append : Nat
 H6 : Nat
 iV : Nat
 get : Nat
def vx (o : aN) : Prop := match o with
 | .bq _ => True
 | .ic _ => True
 | _ => False
set_option genInjectivity true
inductive lH where
 | pH | seq (v : V) | j6 (n : Nat) (kvs : List (V × V))
def lF : V -> List V -> ag -> Prop
 | .ae l', l, _ => l' = l
 | .ref n, l, σ => σ[n]? = some (.list l)
 | _, _, _ => False
def d8 (v : lH) (l : List V) (σ : ag) : Prop := match v with
 | .pH => True
 | .seq v => lF v l σ
 | .j6 n kvs => σ[n]? = some (.bq kvs)
noncomputable def rF : List Nat -> List V -> Env -> Option Env
 | [], l, ρ => (match l with | [] => some ρ | _ => none)
 | k :: ks, l, ρ => (match l with | v :: vs => rF ks vs (ρ.set k (some v)) | [] => none)
end
end
set_option genSizeOf false
set_option genInjectivity false
section
noncomputable abbrev SL.c (s : S) (r : SL) : SL := .cons s r
noncomputable abbrev EL.c (e : E) (r : EL) : EL := .cons e r
noncomputable abbrev SL.n : SL := .nil
noncomputable abbrev EL.n : EL := .nil
noncomputable abbrev S.a (k : Nat) (e : E) : S := .assign k e
noncomputable abbrev S.sA (o : E) (a : Nat) (e : E) : S := .setAttr o a e
noncomputable abbrev S.sI (o i e : E) : S := .setItem o i e
noncomputable abbrev SL.o (s : S) : SL := .cons s .nil
noncomputable abbrev EL.o (e : E) : EL := .cons e .nil
noncomputable abbrev ik (i : Int) : E := .lit (.int i)
noncomputable abbrev sk (i : Nat) : E := .lit (.str i)
noncomputable def lq : aL := ⟨5, 1, 1, [], .o (.sA (.aa 0) 4 (.list .n))⟩
noncomputable def mH : aL := ⟨6, 3, 3, [], .o (.expr (.aM (.ar (.aa 0) 4) 0 (.o (.ae (.c (.aa 1) (.o (.aa 2)))))))⟩
noncomputable def gR : aL := ⟨5, 1, 2, [], .c (.sA (.aa 0) 4 (.list .n)) (.c (.sA (.aa 0) 7 (.dict .ae [])) (.c (.sA (.aa 0) 8 (.list (.o (.lit .none)))) (.c (.sA (.aa 0) 9 (.list .n)) (.c (.sA (.aa 0) 10 (.list .n)) (.c (.sA (.aa 0) 11 (.list .n)) (.c (.sA (.aa 0) 12 (.dict .int [])) (.c (.sA (.aa 0) 13 (.dict .int [])) (.c (.sA (.aa 0) 14 (ik 0)) (.c (.sA (.aa 0) 15 (ik 0)) (.o (.dK 1 (.aq 16 (.ae [.ae [.int 1, .str 17], .ae [.int 1, .str 18], .ae [.int 1, .str 19], .ae [.int 1, .str 20], .ae [.int 1, .str 21], .ae [.int 1, .str 22], .ae [.int 1, .str 23], .ae [.int 1, .str 24], .ae [.int 2, .int 0, .int 0], .ae [.int 2, .int 1, .int 0], .ae [.int 1, .str 25], .ae [.int 8, .ae [], .ae [], .ae [], .ae [], .ae [], .int 0], .ae [.int 6, .ae [.int 8, .int 9]], .ae [.int 1, .str 26], .ae [.int 2, .int 0, .int 1], .ae [.int 2, .int 1, .int 1]])) (.o (.expr (.aM (.aa 0) 6 (.o (.aa 1))))))))))))))))⟩
noncomputable def ij : aL := ⟨6, 2, 3, [], .c (.ite (.aB .bt (.aa 1) (.ar (.aa 0) 7)) (.o (.ret (.sub (.ar (.aa 0) 7) (.aa 1)))) .n) (.c (.a 2 (.fn .len (.ar (.aa 0) 4))) (.c (.expr (.aM (.ar (.aa 0) 4) 0 (.o (.aa 1)))) (.c (.sI (.ar (.aa 0) 7) (.aa 1) (.aa 2)) (.o (.ret (.aa 2))))))⟩
noncomputable def mI : aL := ⟨5, 4, 4, [], .c (.sA (.aa 0) 27 (.aa 1)) (.c (.sA (.aa 0) 28 (.aa 2)) (.c (.sA (.aa 0) 29 (.aa 3)) (.c (.sA (.aa 0) 30 (.ae .n)) (.c (.sA (.aa 0) 31 (.neg (ik 1))) (.c (.sA (.aa 0) 32 (.ae .n)) (.c (.sA (.aa 0) 33 (.neg (ik 1))) (.c (.sA (.aa 0) 34 (ik 0)) (.c (.sA (.aa 0) 35 (.lit (.bool false))) (.c (.sA (.aa 0) 36 (.list .n)) (.c (.sA (.aa 0) 37 (.list .n)) (.c (.sA (.aa 0) 38 (ik 0)) (.c (.sA (.aa 0) 39 (ik 0)) (.c (.sA (.aa 0) 41 (sk 40)) (.o (.sA (.aa 0) 42 (ik 0))))))))))))))))⟩
noncomputable def jX : aL := ⟨44, 3, 3, [(.int 0)], .o (.ret (.aM (.aa 0) 6 (.o (.ae (.c (.aq 43 (.int 3)) (.c (.aa 1) (.o (.aa 2))))))))⟩
noncomputable def fZ : aL := ⟨46, 4, 5, [.int (-1), .int (-1)], .c (.a 4 (.fn .len (.ar (.aa 0) 9))) (.c (.expr (.aM (.ar (.aa 0) 9) 0 (.o (.aa 2)))) (.c (.expr (.aM (.ar (.aa 0) 10) 0 (.o (.aa 3)))) (.c (.expr (.aM (.ar (.aa 0) 11) 0 (.o (.aa 1)))) (.o (.ret (.aM (.aa 0) 6 (.o (.ae (.c (.aq 45 (.int 10)) (.o (.aa 4)))))))))))⟩
noncomputable def oQ : aL := ⟨47, 3, 4, [], .c (.a 3 (.new 1 (.c (.fn .len (.ar (.aa 0) 8)) (.c (.aa 1) (.o (.aa 2)))))) (.c (.expr (.aM (.ar (.aa 0) 8) 0 (.o (.aa 3)))) (.o (.ret (.aa 3))))⟩
noncomputable def oP : aL := ⟨50, 2, 3, [], .c (.ite (.aB .eq (.aa 1) (.aq 48 (.int 2))) (.o (.ret (.ae .n))) .n) (.c (.a 2 (.sub (.ar (.aa 0) 4) (.aa 1))) (.c (.ite (.aB .eq (.sub (.aa 2) (ik 0)) (.aq 49 (.int 6))) (.o (.ret (.sub (.aa 2) (ik 1)))) .n) (.o (.ret (.ae (.o (.aa 1)))))))⟩
noncomputable def iP : aL := ⟨56, 1, 2, [], .c (.a 1 (.sub (.aa 0) (ik 0))) (.c (.ite (.or (.c (.aB .eq (.aa 1) (.aq 43 (.int 3))) (.o (.aB .eq (.aa 1) (.aq 51 (.int 18)))))) (.o (.ret (.aq 52 (.int 6)))) .n) (.c (.ite (.aB .eq (.aa 1) (.aq 53 (.int 4))) (.o (.ret (.aq 54 (.int 7)))) .n) (.c (.ite (.aB .eq (.aa 1) (.aq 55 (.int 5))) (.o (.ret (.ite .bS (.aq 52 (.int 6)) (.aq 54 (.int 7))))) .n) (.o (.ret (.neg (ik 1)))))))⟩
noncomputable def iT : aL := ⟨58, 2, 3, [], .c (.a 2 (.sub (.ar (.aa 0) 4) (.aa 1))) (.c (.ite (.and (.c (.aB .bt (.sub (.aa 2) (ik 0)) (.aq 57 (.ae [.int 2, .int 3, .int 4, .int 5, .int 8]))) (.o (.aB .eq (.sub (.aa 2) (.neg (ik 1))) (ik 1))))) (.o (.ret .bS)) .n) (.o (.ret (.neg (ik 1)))))⟩
noncomputable def kZ : aL := ⟨63, 1, 1, [], .o (.ite (.and (.c (.or (.c (.aB .bt (.aq 59 (.int 8)) (.aa 0)) (.o (.aB .bt (.aq 60 (.int 14)) (.aa 0))))) (.o (.or (.c (.aB .bt (.aq 61 (.int 9)) (.aa 0)) (.o (.aB .bt (.aq 62 (.int 15)) (.aa 0)))))))) (.c (.sI (.aa 0) (.aq 59 (.int 8)) (ik 1)) (.o (.sI (.aa 0) (.aq 61 (.int 9)) (ik 1)))) .n)⟩
noncomputable def iR : aL := ⟨64, 3, 3, [], .c (.ite (.aB .bt (.call 10 (.c (.aa 0) (.o (.aa 2)))) (.aa 1)) (.o (.ret (.lit (.bool false)))) .n) (.o (.ret (.aB .d9 (.call 9 (.o (.sub (.ar (.aa 0) 4) (.aa 2)))) (.aa 1))))⟩
noncomputable def uV : aL := ⟨68, 1, 2, [], .c (.dK 1 (.ae (.c (.aq 65 (.int 0)) (.c (.aq 66 (.int 13)) (.o (.aq 67 (.int 1)))))) (.o (.ite (.aB .bt (.aa 1) (.aa 0)) (.o (.ret (.aa 1))) .n))) (.o (.ret (.neg (ik 1))))⟩
noncomputable def yF : aL := ⟨70, 2, 8, [], .c (.a 2 (.dict .int [])) (.c (.dK 3 (.aa 1) (.o (.dK 4 (.call 8 (.c (.aa 0) (.o (.aa 3)))) (.o (.sI (.aa 2) (.aa 4) (ik 1)))))) (.c (.a 5 (.call 13 (.o (.aa 2)))) (.c (.ite (.aB .ge (.aa 5) (ik 0)) (.o (.ret (.aa 5))) .n) (.c (.expr (.call 11 (.o (.aa 2)))) (.c (.a 6 (.comp (.aa 7) 7 (.fn .sorted (.aa 2)) (.o (.call 12 (.c (.aa 0) (.c (.aa 2) (.o (.aa 7)))))))) (.c (.ite (.not (.aa 6)) (.o (.ret (.aq 48 (.int 2)))) .n) (.c (.ite (.aB .eq (.fn .len (.aa 6)) (ik 1)) (.o (.ret (.sub (.aa 6) (ik 0)))) .n) (.c (.ite (.aB .gt (.fn .len (.aa 6)) (.aq 69 (.int 400))) (.o .bS) .n) (.o (.ret (.aM (.aa 0) 6 (.o (.ae (.c (.aq 49 (.int 6)) (.o (.fn .tuple (.aa 6)))))))))))))))))⟩
noncomputable def qK : aL := ⟨71, 3, 4, [], .o (.ret (.call 14 (.c (.aa 0) (.o (.comp (.aa 3) 3 (.call 8 (.c (.aa 0) (.o (.aa 1)))) (.o (.aB .d9 (.aa 3) (.aa 2))))))))⟩
noncomputable def mF : aL := ⟨73, 2, 2, [], .o (.ret (.call 14 (.c (.aa 0) (.o (.ae (.c (.aa 1) (.o (.aq 72 (.int 4)))))))))⟩
noncomputable def k7 : aL := ⟨75, 2, 2, [], .o (.ret (.aB .bt (.sub (.sub (.ar (.aa 0) 4) (.aa 1)) (ik 0)) (.aq 74 (.ae [(.int 2), (.int 3), (.int 4), (.int 5)]))))⟩
noncomputable def oU : aL := ⟨76, 2, 3, [], .c (.a 2 (.sub (.ar (.aa 0) 4) (.aa 1))) (.o (.ret (.and (.c (.aB .bt (.sub (.aa 2) (ik 0)) (.aq 57 (.ae [.int 2, .int 3, .int 4, .int 5, .int 8]))) (.o (.aB .eq (.sub (.aa 2) (.neg (ik 1))) (ik 1)))))))⟩
noncomputable def jz : aL := ⟨77, 2, 2, [], .c (.ite (.call 18 (.c (.aa 0) (.o (.aa 1)))) (.o (.ret (.aM (.aa 0) 6 (.o (.fQ .add .bS (.ae (.o (ik 0)))))))) .n) (.o (.ret (.aa 1)))⟩
noncomputable def jD : aL := ⟨81, 2, 5, [], .c (.a 2 (.aq 78 (.int 0))) (.c (.dK 3 (.aa 1) (.c (.a 4 (.call 21 (.c (.aa 0) (.o (.aa 3))))) (.c (.ite (.and (.c (.aB .ne (.aa 4) (.aq 78 (.int 0))) (.o (.aB .ne (.aa 4) (.aq 79 (.int 7)))))) (.o (.ret (.aa 4))) .n) (.o (.ite (.and (.c (.aB .eq (.aa 4) (.aq 79 (.int 7))) (.o (.aB .ne (.aa 3) (.aq 80 (.int 11)))))) (.o (.a 2 (.aq 79 (.int 7)))) .n))))) (.o (.ret (.aa 2))))⟩
noncomputable def uW : aL := ⟨90, 2, 5, [], .c (.a 2 (.sub (.ar (.aa 0) 4) (.aa 1))) (.c (.a 3 (.sub (.aa 2) (ik 0))) (.c (.ite (.aB .eq (.aa 3) (.aq 82 (.int 1))) (.o (.ret (.Jn 83 [(3, .int 6), (4, .int 5), (5, .int 4), (6, .int 1), (7, .int 2), (10, .int 7)] (.aa 1) (.aq 78 (.int 0))))) .n) (.c (.ite (.aB .eq (.aa 3) (.aq 84 (.int 2))) (.o (.ret (.aq 85 (.int 3)))) .n) (.c (.ite (.aB .bt (.aa 3) (.aq 86 (.ae [.int 8, .int 9, .int 11, .int 12, .int 13]))) (.o (.ret (.aq 79 (.int 7)))) .n) (.c (.ite (.aB .eq (.aa 3) (.aq 49 (.int 6))) (.o (.ret .bS)) .n) (.c (.ite (.aB .eq (.aa 3) (.aq 87 (.int 7))) (.o (.ret (.call 20 (.c (.aa 0) (.o (.sub (.aa 2) (ik 1))))))) .n) (.c (.a 4 (.call 9 (.o (.aa 2)))) (.c (.ite (.aB .lt (.aa 4) (ik 0)) (.o (.ret (.aq 78 (.int 0)))) .n) (.o (.ret (.ite (.aB .eq (.aa 4) (.aq 52 (.int 6))) (.aq 88 (.int 1)) (.aq 89 (.int 2)))))))))))))⟩
noncomputable def eZ : aL := ⟨94, 1, 1, [], .o (.ret (.or (.c (.aB .eq (.aa 0) (.aq 91 (.int 4))) (.c (.aB .eq (.aa 0) (.aq 92 (.int 5))) (.o (.aB .eq (.aa 0) (.aq 93 (.int 6))))))))⟩
noncomputable def k9 : aL := ⟨95, 1, 1, [], .o (.ret (.ite (.aB .eq (.aa 0) (.ae .n)) (.list .n) (.list (.o (.sub (.aa 0) (ik 0))))))⟩
noncomputable def jC : aL := ⟨96, 1, 4, [], .c (.a 1 (.comp (.sub (.aa 3) (ik 1)) 3 (.sub (.aa 0) (ik 1)) .n)) (.c (.dK 2 (.fQ .add (.sub (.aa 0) (ik 2)) (.sub (.aa 0) (ik 3))) (.o (.expr (.aM (.aa 1) 0 (.o (.aa 2)))))) (.o (.ret (.fQ .add (.fQ .add (.aa 1) (.call 23 (.o (.sub (.aa 0) (ik 4))))) (.call 23 (.o (.sub (.aa 0) (ik 5))))))))⟩
noncomputable def oO : aL := ⟨103, 1, 8, [], .c (.a 1 (.sub (.aa 0) (ik 0))) (.c (.ite (.NP 97 [(11, .ae [.int 1, .int 2]), (14, .ae [.int 1, .int 2]), (15, .ae [.int 1, .int 3]), (16, .ae [.int 1, .int 5]), (17, .ae [.int 2, .int 5])] (.aa 1)) (.c (.iB [2, 3] .bS) (.o (.ret (.comp (.aa 4) 4 .bS .n)))) .n) (.c (.ite (.or (.c (.aB .eq (.aa 1) (.aq 49 (.int 6))) (.o (.aB .eq (.aa 1) (.aq 87 (.int 7)))))) (.o (.ret (.comp (.aa 5) 5 (.sub (.aa 0) (ik 1)) .n))) .n) (.c (.ite (.aB .eq (.aa 1) (.aq 98 (.int 8))) (.o (.ret (.call 24 (.o (.aa 0))))) .n) (.c (.ite (.or (.c (.aB .eq (.aa 1) (.aq 99 (.int 9))) (.c (.aB .eq (.aa 1) (.aq 100 (.int 19))) (.o (.aB .eq (.aa 1) (.aq 51 (.int 18))))))) (.o (.ret (.comp (.aa 6) 6 (.sub (.aa 0) (ik 2)) .n))) .n) (.c (.ite (.aB .eq (.aa 1) (.aq 101 (.int 12))) (.o (.ret (.comp (.sub (.aa 7) (ik 0)) 7 (.sub (.aa 0) (ik 1)) .n))) .n) (.c (.ite (.aB .eq (.aa 1) (.aq 102 (.int 13))) (.o (.ret .bS)) .n) (.o (.ret (.list .n)))))))))⟩
noncomputable def mx : aL := ⟨106, 1, 1, [], .c (.ite (.aB .eq (.sub (.aa 0) (ik 0)) (.aq 102 (.int 13))) (.o (.ret (.sub (.aa 0) (ik 1)))) .n) (.c (.ite (.aB .eq (.sub (.aa 0) (ik 0)) (.aq 104 (.int 16))) (.o (.ret (.sub (.aa 0) (ik 5)))) .n) (.c (.ite (.aB .eq (.sub (.aa 0) (ik 0)) (.aq 105 (.int 17))) (.o (.ret (.ae (.o (.sub (.aa 0) (ik 1)))))) .n) (.o (.ret (.ae .n)))))⟩
noncomputable def k8 : aL := ⟨107, 2, 4, [], .c (.a 2 (.call 25 (.o (.aa 1)))) (.c (.dK 3 (.call 26 (.o (.aa 1))) (.c (.expr (.aM (.aa 2) 0 (.o (.sub (.ar (.aa 0) 9) (.aa 3))))) (.o (.expr (.aM (.aa 2) 0 (.o (.sub (.ar (.aa 0) 10) (.aa 3)))))))) (.o (.ret (.aa 2))))⟩
noncomputable def qN : aL := ⟨108, 2, 5, [], .c (.a 2 (.dict .int [])) (.c (.a 3 (.list (.o (.aa 1)))) (.c (.while (.aa 3) (.c (.a 4 (.aM (.aa 3) 1 .n)) (.o (.ite (.and (.c (.aB .ge (.aa 4) (ik 0)) (.o (.aB .d9 (.aa 4) (.aa 2))))) (.c (.sI (.aa 2) (.aa 4) (ik 1)) (.o (.expr (.aM (.aa 3) 2 (.o (.call 27 (.c (.aa 0) (.o (.sub (.ar (.aa 0) 4) (.aa 4)))))))))) .n)))) (.o (.ret (.fn .sorted (.aa 2))))))⟩
noncomputable def jH : aL := ⟨109, 2, 9, [], .c (.ite (.aB .lt (.aa 1) (ik 0)) (.o (.ret (.ae .n))) .n) (.c (.a 2 (.call 28 (.c (.aa 0) (.o (.aa 1))))) (.c (.ite (.not (.fn .any (.comp (.call 26 (.o (.sub (.ar (.aa 0) 4) (.aa 7)))) 7 (.aa 2) .n))) (.o (.ret (.fn .tuple (.fn .sorted (.comp (.sub (.sub (.ar (.aa 0) 4) (.aa 8)) (ik 1)) 8 (.aa 2) (.o (.aB .eq (.sub (.sub (.ar (.aa 0) 4) (.aa 8)) (ik 0)) (.aq 45 (.int 10))))))))) .n) (.c (.a 3 (.dict .int [])) (.c (.a 4 (.neg (ik 1))) (.c (.while .bS (.c (.a 5 (ik 0)) (.c (.dK 6 (.aa 2) (.o .bS)) (.c (.ite (.aB .eq (.aa 5) (.aa 4)) (.o .bS) .n) (.o (.a 4 (.aa 5))))))) (.o (.ret (.fn .tuple (.fn .sorted (.sub (.aa 3) (.aa 1)))))))))))⟩
noncomputable def lg : aL := ⟨110, 2, 2, [], .o (.ret (.aB .gt (.fn .len (.call 29 (.c (.aa 0) (.o (.aa 1))))) (ik 0)))⟩
noncomputable def eE : aL := ⟨112, 3, 6, [.int 0], .c (.dK 3 (.call 8 (.c (.aa 0) (.o (.aa 1)))) (.c (.a 4 (.sub (.ar (.aa 0) 4) (.aa 3))) (.c (.ite (.or (.c (.aB .eq (.aa 3) (.aq 67 (.int 1))) (.c (.aB .eq (.aa 3) (.aq 65 (.int 0))) (.o (.call 22 (.o (.call 21 (.c (.aa 0) (.o (.aa 3)))))))))) (.o (.ret (.lit (.bool true)))) .n) (.o (.ite (.aB .eq (.sub (.aa 4) (ik 0)) (.aq 45 (.int 10))) (.c (.a 5 (.sub (.ar (.aa 0) 9) (.sub (.aa 4) (ik 1)))) (.o (.ite (.or (.c (.aB .lt (.aa 5) (ik 0)) (.c (.aB .gt (.aa 2) (ik 20)) (.o (.call 31 (.c (.aa 0) (.c (.aa 5) (.o (.fQ .add (.aa 2) (ik 1)))))))))) (.o (.ret (.lit (.bool true)))) .n))) (.o (.ite (.or (.c (.aB .eq (.sub (.aa 4) (ik 0)) (.aq 111 (.int 15))) (.c (.aB .eq (.sub (.aa 4) (ik 0)) (.aq 104 (.int 16))) (.o (.aB .eq (.sub (.aa 4) (ik 0)) (.aq 100 (.int 19))))))) (.o (.ret (.lit (.bool true)))) (.o (.ite (.and (.c (.aB .eq (.sub (.aa 4) (ik 0)) (.aq 87 (.int 7))) (.o (.call 33 (.c (.aa 0) (.c (.aa 3) (.o (.aa 2)))))))) (.o (.ret (.lit (.bool true)))) (.o (.ite (.and (.c (.aB .eq (.sub (.aa 4) (ik 0)) (.aq 105 (.int 17))) (.o (.call 32 (.c (.aa 0) (.c (.aa 4) (.o (.aa 2)))))))) (.o (.ret (.lit (.bool true)))) .n))))))))))) (.o (.ret (.lit (.bool false))))⟩
noncomputable def dC : aL := ⟨114, 3, 4, [], .c (.a 3 (.sub (.ar (.aa 0) 4) (.sub (.aa 1) (ik 2)))) (.o (.ret (.and (.c (.aB .eq (.sub (.aa 3) (ik 0)) (.aq 113 (.int 14))) (.c (.aB .le (.aa 2) (ik 20)) (.o (.call 31 (.c (.aa 0) (.c (.sub (.aa 3) (ik 1)) (.o (.fQ .add (.aa 2) (ik 1))))))))))))⟩
noncomputable def eo : aL := ⟨115, 3, 5, [], .c (.a 3 (.sub (.sub (.ar (.aa 0) 4) (.aa 1)) (ik 1))) (.c (.ite (.or (.c (.aB .bt (.aq 80 (.int 11)) (.aa 3)) (.c (.aB .ne (.call 21 (.c (.aa 0) (.o (.aa 1)))) (.aq 78 (.int 0))) (.o (.aB .gt (.aa 2) (ik 20)))))) (.o (.ret (.lit (.bool false)))) .n) (.o (.ret (.fn .all (.comp (.call 31 (.c (.aa 0) (.c (.aa 4) (.o (.fQ .add (.aa 2) (ik 1)))))) 4 (.aa 3) .n)))))⟩
noncomputable def jA : aL := ⟨118, 2, 4, [], .c (.dK 2 (.range (.aq 116 (.int 40))) (.c (.ite (.aB .lt (.aa 1) (ik 0)) (.o .bS) .n) (.c (.a 3 (.sub (.ar (.aa 0) 4) (.aa 1))) (.c (.ite (.aB .eq (.sub (.aa 3) (ik 0)) (.aq 98 (.int 8))) (.o (.ret (.aa 1))) .n) (.c (.ite (.aB .eq (.sub (.aa 3) (ik 0)) (.aq 102 (.int 13))) (.o (.ret .bS)) .n) (.c (.ite (.aB .bt (.sub (.aa 3) (ik 0)) (.aq 117 (.ae [.int 1, .int 2, .int 3, .int 4, .int 5]))) (.o (.ret (.aq 80 (.int 11)))) .n) (.c (.ite (.or (.c (.aB .ne (.sub (.aa 3) (ik 0)) (.aq 99 (.int 9))) (.c (.sub (.aa 3) (ik 2)) (.o (.ar (.sub (.ar (.aa 0) 8) (.sub (.aa 3) (ik 1))) 32))))) (.o .bS) .n) (.o (.a 1 (.ar (.sub (.ar (.aa 0) 8) (.sub (.aa 3) (ik 1))) 31)))))))))) (.o .bS)⟩
noncomputable def mG : aL := ⟨5, 2, 2, [], .c (.sA (.aa 0) 119 (.aa 1)) (.c (.sA (.aa 0) 120 (ik 0)) (.c (.sA (.aa 0) 122 (.aq 121 (.int 200))) (.c (.sA (.aa 0) 124 (.aq 123 (.int 40))) (.o (.sA (.aa 0) 125 (.lit .none))))))⟩
noncomputable def lp : aL := ⟨126, 2, 2, [], .o (.ret (.aa 1))⟩
noncomputable def fb : aL := ⟨127, 2, 2, [], .o (.ret (.aM (.ar (.aa 0) 119) 6 (.o (.aa 1))))⟩
noncomputable def oZ : aL := ⟨5, 3, 3, [], .c (.sA (.aa 0) 128 (.aa 1)) (.c (.sA (.aa 0) 129 (.aa 2)) (.c (.sA (.aa 0) 130 (.dict .int [])) (.c (.sA (.aa 0) 131 (.dict .ae [])) (.c (.sA (.aa 0) 132 (.dict .ae [])) (.c (.sA (.aa 0) 133 (.list .n)) (.c (.sA (.aa 0) 134 (.list .n)) (.c (.sA (.aa 0) 120 (ik 0)) (.c (.sA (.aa 0) 135 (ik 0)) (.c (.sA (.aa 0) 136 (.new 4 .n)) (.c (.sA (.aa 0) 137 (.lit (.bool true))) (.c (.sA (.aa 0) 138 (.lit .none)) (.c (.sA (.aa 0) 139 (sk 40)) (.o (.sA (.aa 0) 39 (ik 0)))))))))))))))⟩
noncomputable def qQ : aL := ⟨140, 3, 3, [], .o (.ret (.call 48 (.c (.aa 0) (.c (.aa 1) (.o (.aa 2))))))⟩
noncomputable def oX : aL := ⟨141, 2, 2, [], .o (.ite (.ar (.aa 0) 137) (.o (.expr (.aM (.ar (.aa 0) 136) 6 (.c (.aa 1) (.o (.ar (.aa 0) 39)))))) .n)⟩
noncomputable def oW : aL := ⟨142, 3, 3, [], .o (.ret (.or (.c (.aB .eq (.aa 1) (.aa 2)) (.o (.aM (.call 45 (.o (.aa 0))) 140 (.c (.aa 1) (.o (.aa 2))))))))⟩
noncomputable def oY : aL := ⟨143, 1, 1, [], .o (.ret (.ae (.c (.fn .len (.ar (.ar (.aa 0) 136) 4)) (.o (.fn .len (.ar (.aa 0) 133))))))⟩
noncomputable def qP : aL := ⟨145, 4, 5, [], .c (.a 4 (.aM (.ar (.aa 0) 130) 3 (.o (.aa 1)))) (.o (.ret (.and (.c (.aB .yt (.aa 4) (.lit .none)) (.o (.aM (.aa 4) 144 (.c (.aa 0) (.c (.aa 2) (.o (.aa 3))))))))))⟩
noncomputable def jy : aL := ⟨146, 2, 3, [], .c (.a 2 (.new 3 (.c (.ar (.aa 0) 128) (.o (.aa 1))))) (.c (.sA (.aa 2) 130 (.ar (.aa 0) 130)) (.c (.sA (.aa 2) 137 (.lit (.bool false))) (.o (.ret (.aa 2)))))⟩
noncomputable def qL : aL := ⟨148, 1, 1, [], .c (.ite (.aB .eq (.ar (.aa 0) 129) (.aq 147 (.int 3))) (.o (.ret (.aa 0))) .n) (.c (.ite (.aB .is (.ar (.aa 0) 138) (.lit .none)) (.o (.sA (.aa 0) 138 (.call 44 (.c (.aa 0) (.o (.aq 147 (.int 3))))))) .n) (.o (.ret (.ar (.aa 0) 138))))⟩
noncomputable def oV : aL := ⟨149, 2, 2, [], .c (.sO (.ar (.ar (.aa 0) 136) 4) (.sub (.aa 1) (ik 0))) (.o (.while (.aB .gt (.fn .len (.ar (.aa 0) 133)) (.sub (.aa 1) (ik 1))) (.o (.delItem (.ar (.aa 0) 131) (.aM (.ar (.aa 0) 133) 1 .n)))))⟩
noncomputable def qM : aL := ⟨150, 2, 2, [], .c (.a 1 (.aM (.aa 0) 126 (.o (.aa 1)))) (.c (.ite (.call 17 (.c (.ar (.aa 0) 119) (.o (.aa 1)))) (.o (.ret (.call 19 (.c (.ar (.aa 0) 119) (.o (.aa 1)))))) .n) (.o (.ret (.aa 1))))⟩
noncomputable def mE : aL := ⟨153, 3, 5, [], .c (.ite (.aB .eq (.aa 1) (.aa 2)) (.o (.ret (.lit (.bool true)))) .n) (.c (.a 1 (.call 47 (.c (.ar (.aa 0) 128) (.o (.aa 1))))) (.c (.a 2 (.call 47 (.c (.ar (.aa 0) 128) (.o (.aa 2))))) (.c (.ite (.aB .eq (.aa 1) (.aa 2)) (.o (.ret (.lit (.bool true)))) .n) (.c (.ite (.aB .eq (.ar (.aa 0) 129) (.aq 147 (.int 3))) (.c (.a 3 (.ar (.ar (.ar (.aa 0) 128) 119) 4)) (.c (.ite (.or (.c (.aB .eq (.aa 1) (.aq 66 (.int 13))) (.o (.aB .eq (.aa 2) (.aq 66 (.int 13)))))) (.o (.ret (.lit (.bool true)))) .n) (.c (.ite (.or (.c (.aB .bt (.sub (.sub (.aa 3) (.aa 1)) (ik 0)) (.aq 151 (.ae [.int 1, .int 2, .int 3, .int 4, .int 5]))) (.o (.aB .bt (.sub (.sub (.aa 3) (.aa 2)) (ik 0)) (.aq 151 (.ae [.int 1, .int 2, .int 3, .int 4, .int 5])))))) (.o (.ret (.lit (.bool false)))) .n) (.o (.ret (.call 49 (.c (.aa 0) (.c (.aa 1) (.o (.aa 2)))))))))) .n) (.c (.a 4 (.call 53 (.c (.aa 0) (.c (.aa 1) (.o (.aa 2)))))) (.c (.ite (.or (.c (.aB .eq (.aa 4) (ik 1)) (.o (.and (.c (.aB .eq (.ar (.aa 0) 129) (.aq 152 (.int 2))) (.c (.aB .ne (.aa 2) (.aq 48 (.int 2))) (.o (.aB .eq (.call 53 (.c (.aa 0) (.c (.aa 2) (.o (.aa 1))))) (ik 1))))))))) (.o (.ret (.lit (.bool true)))) .n) (.o (.ret (.and (.c (.aB .lt (.aa 4) (ik 0)) (.o (.call 49 (.c (.aa 0) (.c (.aa 1) (.o (.aa 2))))))))))))))))⟩
noncomputable def iS : aL := ⟨158, 3, 6, [], .c (.a 3 (.ae (.c (.aa 1) (.o (.aa 2))))) (.c (.ite (.aB .bt (.aa 3) (.ar (.aa 0) 132)) (.o (.ret (.sub (.ar (.aa 0) 132) (.aa 3)))) .n) (.c (.ite (.aB .bt (.aa 3) (.ar (.aa 0) 131)) (.o (.ret (.lit (.bool true)))) .n) (.c (.ite (.and (.c (.aB .ge (.ar (.aa 0) 135) (.aq 154 (.int 20000))) (.o (.not (.call 51 (.o (.aa 0))))))) (.o (.ret (.lit (.bool false)))) .n) (.c (.ite (.or (.c (.aB .ge (.ar (.aa 0) 120) (.aq 155 (.int 60))) (.o (.aB .ge (.ar (.aa 0) 135) (.aq 154 (.int 20000)))))) (.c (.expr (.aM (.aa 0) 141 (.o (.aq 156 (.int 15))))) (.o (.ret (.lit (.bool true))))) .n) (.c (.lB (.aa 0) 135 .add (ik 1)) (.c (.a 4 (.aM (.aa 0) 143 .n)) (.c (.sI (.ar (.aa 0) 131) (.aa 3) (ik 1)) (.c (.expr (.aM (.ar (.aa 0) 133) 0 (.o (.aa 3)))) (.c (.lB (.aa 0) 120 .add (ik 1)) (.c (.a 5 (.ite (.aB .eq (.ar (.aa 0) 129) (.aq 147 (.int 3))) (.call 60 (.c (.aa 0) (.c (.aa 1) (.o (.aa 2))))) (.call 55 (.c (.aa 0) (.c (.aa 1) (.o (.aa 2))))))) (.c (.lB (.aa 0) 120 .sub (ik 1)) (.c (.ite (.not (.aa 5)) (.c (.expr (.call 46 (.c (.aa 0) (.o (.aa 4))))) (.o (.ite (.or (.c (.aB .eq (.sub (.aa 4) (ik 1)) (ik 0)) (.o (.aB .ne (.ar (.aa 0) 129) (.aq 157 (.int 4)))))) (.o (.sI (.ar (.aa 0) 132) (.aa 3) (.lit (.bool false)))) .n))) (.o (.ite (.aB .eq (.sub (.aa 4) (ik 1)) (ik 0)) (.o (.expr (.call 50 (.c (.aa 0) (.o (.aB .eq (.fn .len (.ar (.ar (.aa 0) 136) 4)) (.sub (.aa 4) (ik 0)))))))) .n))) (.o (.ret (.aa 5)))))))))))))))⟩
noncomputable def jI : aL := ⟨159, 2, 3, [], .c (.dK 2 (.ar (.aa 0) 133) (.c (.delItem (.ar (.aa 0) 131) (.aa 2)) (.o (.ite (.aa 1) (.o (.sI (.ar (.aa 0) 132) (.aa 2) (.lit (.bool true)))) .n)))) (.o (.sA (.aa 0) 133 (.list .n)))⟩
noncomputable def yG : aL := ⟨161, 1, 1, [], .o (.ret (.and (.c (.ar (.aa 0) 137) (.o (.aB .eq (.ar (.aa 0) 129) (.aq 160 (.int 1)))))))⟩
noncomputable def jx : aL := ⟨163, 3, 3, [], .o (.ite (.and (.c (.call 51 (.o (.aa 0))) (.c (.aB .ne (.aa 1) (.aq 66 (.int 13))) (.c (.aB .ne (.aa 2) (.aq 66 (.int 13))) (.o (.not (.aM (.aa 0) 142 (.c (.aa 1) (.o (.aa 2)))))))))) (.o (.expr (.aM (.aa 0) 141 (.o (.aq 162 (.int 3)))))) .n)⟩
noncomputable def gP : aL := ⟨168, 3, 7, [], .c (.a 3 (.call 54 (.c (.aa 0) (.c (.aa 1) (.o (.aa 2)))))) (.c (.ite (.aB .ge (.aa 3) (ik 0)) (.o (.ret (.aa 3))) .n) (.c (.a 4 (.ar (.ar (.ar (.aa 0) 128) 119) 4)) (.c (.a 5 (.sub (.sub (.aa 4) (.aa 1)) (ik 0))) (.c (.a 6 (.sub (.sub (.aa 4) (.aa 2)) (ik 0))) (.c (.ite (.or (.c (.aB .bt (.aa 5) (.aq 164 (.ae [.int 6, .int 7, .int 10, .int 14, .int 15, .int 16, .int 17, .int 18, .int 19]))) (.o (.aB .bt (.aa 6) (.aq 164 (.ae [.int 6, .int 7, .int 10, .int 14, .int 15, .int 16, .int 17, .int 18, .int 19])))))) (.o (.ret (.neg (ik 1)))) .n) (.c (.ite (.aB .eq (.aa 2) (.aq 165 (.int 10))) (.o (.ret (.ite (.aB .bt (.aa 5) (.aq 151 (.ae [.int 1, .int 2, .int 3, .int 4, .int 5]))) (ik 0) (.neg (ik 1))))) .n) (.c (.ite (.aB .bt (.aa 6) (.aq 151 (.ae [.int 1, .int 2, .int 3, .int 4, .int 5]))) (.o (.ret (.ite (.aB .bt (.aa 5) (.aq 151 (.ae [.int 1, .int 2, .int 3, .int 4, .int 5]))) .bS (ik 0)))) .n) (.c (.ite (.or (.c (.aB .eq (.aa 1) (.aq 72 (.int 4))) (.c (.aB .eq (.aa 1) (.aq 166 (.int 5))) (.o (.aB .eq (.aa 1) (.aq 167 (.int 3))))))) (.o (.ret (ik 0))) .n) (.o (.ret (.neg (ik 1))))))))))))⟩
noncomputable def iQ : aL := ⟨170, 3, 3, [], .c (.ite (.or (.c (.aB .eq (.aa 2) (.aq 65 (.int 0))) (.c (.aB .eq (.aa 2) (.aq 66 (.int 13))) (.c (.aB .eq (.aa 1) (.aq 48 (.int 2))) (.o (.aB .eq (.aa 1) (.aq 66 (.int 13)))))))) (.o (.ret (ik 1))) .n) (.c (.ite (.and (.c (.aB .eq (.aa 1) (.aq 65 (.int 0))) (.o (.aB .eq (.ar (.aa 0) 129) (.aq 157 (.int 4)))))) (.o (.ret (ik 0))) .n) (.c (.ite (.aB .eq (.aa 2) (.aq 67 (.int 1))) (.o (.ret (ik 1))) .n) (.c (.ite (.aB .eq (.aa 1) (.aq 65 (.int 0))) (.c (.ite (.aB .eq (.aa 2) (.aq 48 (.int 2))) (.o (.ret (ik 0))) .n) (.c (.expr (.aM (.aa 0) 141 (.o (.aq 169 (.int 1))))) (.o (.ret (ik 1))))) .n) (.c (.ite (.aB .eq (.aa 1) (.aq 67 (.int 1))) (.o (.ret .bS)) .n) (.c (.ite (.and (.c (.aB .eq (.aa 2) (.aq 48 (.int 2))) (.o (.aB .d9 (.sub (.sub (.ar (.ar (.ar (.aa 0) 128) 119) 4) (.aa 1)) (ik 0)) (.aq 164 (.ae [.int 6, .int 7, .int 10, .int 14, .int 15, .int 16, .int 17, .int 18, .int 19])))))) (.o (.ret (ik 0))) .n) (.o (.ret (.neg (ik 1)))))))))⟩
noncomputable def kT : aL := ⟨171, 3, 6, [], .c (.a 3 (.ar (.ar (.ar (.aa 0) 128) 119) 4)) (.c (.a 4 (.sub (.sub (.aa 3) (.aa 1)) (ik 0))) (.c (.a 5 (.sub (.sub (.aa 3) (.aa 2)) (ik 0))) (.c (.ite (.aB .eq (.aa 4) (.aq 49 (.int 6))) (.o (.ret (.call 57 (.c (.aa 0) (.c (.aa 1) (.o (.aa 2))))))) .n) (.c (.ite (.aB .eq (.aa 5) (.aq 49 (.int 6))) (.o (.ret (.call 59 (.c (.aa 0) (.c (.aa 1) (.o (.aa 2))))))) .n) (.o (.ret (.call 43 (.c (.aa 0) (.c (.call 56 (.c (.aa 4) (.o (.aa 5)))) (.c (.aa 1) (.o (.aa 2))))))))))))⟩
noncomputable def oN : aL := ⟨179, 2, 2, [], .c (.ite (.or (.c (.aB .eq (.aa 0) (.aq 87 (.int 7))) (.o (.aB .eq (.aa 1) (.aq 87 (.int 7)))))) (.o (.ret (.aq 172 (.int 1)))) .n) (.c (.ite (.or (.c (.aB .bt (.aa 0) (.aq 173 (.ae [.int 10, .int 14, .int 15, .int 16, .int 17, .int 18, .int 19]))) (.o (.aB .bt (.aa 1) (.aq 173 (.ae [.int 10, .int 14, .int 15, .int 16, .int 17, .int 18, .int 19])))))) (.o (.ret (.aq 174 (.int 2)))) .n) (.c (.ite (.and (.c (.aB .eq (.aa 0) (.aq 102 (.int 13))) (.o (.aB .eq (.aa 1) (.aq 102 (.int 13)))))) (.o (.ret (.aq 175 (.int 3)))) .n) (.c (.ite (.and (.c (.aB .bt (.aa 0) (.aq 176 (.ae [.int 11, .int 12]))) (.o (.aB .bt (.aa 1) (.aq 176 (.ae [.int 11, .int 12])))))) (.o (.ret (.aq 177 (.int 4)))) .n) (.o (.ret (.aq 178 (.int 5)))))))⟩
noncomputable def lh : aL := ⟨180, 3, 4, [], .c (.dK 3 (.call 8 (.c (.ar (.ar (.aa 0) 128) 119) (.o (.aa 1)))) (.o (.ite (.aM (.aa 0) 140 (.c (.aa 3) (.o (.aa 2)))) (.o (.ite (.aB .eq (.ar (.aa 0) 129) (.aq 152 (.int 2))) (.o (.ret (.lit (.bool true)))) .n)) (.o (.ite (.aB .ne (.ar (.aa 0) 129) (.aq 152 (.int 2))) (.o (.ret (.lit (.bool false)))) .n))))) (.o (.ret (.aB .ne (.ar (.aa 0) 129) (.aq 152 (.int 2)))))⟩
noncomputable def mv : aL := ⟨182, 3, 6, [], .c (.a 3 (.lit .none)) (.c (.dK 4 (.aa 2) (.c (.a 5 (.aM (.aa 0) 143 .n)) (.o (.ite (.aM (.aa 0) 140 (.c (.aa 1) (.o (.aa 4)))) (.c (.ite (.aB .eq (.fn .len (.ar (.ar (.aa 0) 136) 4)) (.sub (.aa 5) (ik 0))) (.o (.ret (.lit (.bool true)))) .n) (.c (.ite (.aB .is (.aa 3) (.lit .none)) (.o (.a 3 (.ae (.c (.from (.ar (.ar (.aa 0) 136) 4) (.sub (.aa 5) (ik 0))) (.o (.from (.ar (.aa 0) 133) (.sub (.aa 5) (ik 1)))))))) .n) (.o (.expr (.aM (.aa 0) 181 (.o (.aa 5))))))) .n)))) (.c (.ite (.aB .is (.aa 3) (.lit .none)) (.o (.ret (.lit (.bool false)))) .n) (.c (.expr .bS) (.o (.ret (.lit (.bool true)))))))⟩
noncomputable def oM : aL := ⟨186, 3, 6, [], .c (.a 3 (.ar (.ar (.aa 0) 128) 119)) (.c (.a 4 (.call 8 (.c (.aa 3) (.o (.aa 2))))) (.c (.ite (.or (.c (.aB .bt (.aa 1) (.aa 4)) (.o (.call 58 (.c (.aa 0) (.c (.aa 1) (.o (.aa 4)))))))) (.o (.ret (.lit (.bool true)))) .n) (.c (.a 5 (.sub (.sub (.ar (.aa 3) 4) (.aa 1)) (ik 0))) (.c (.ite (.aB .bt (.aa 5) (.aq 173 (.ae [.int 10, .int 14, .int 15, .int 16, .int 17, .int 18, .int 19]))) (.o (.ret (.call 43 (.c (.aa 0) (.c (.aq 174 (.int 2)) (.c (.aa 1) (.o (.aa 2)))))))) .n) (.c (.ite (.and (.c (.aB .eq (.aa 5) (.aq 87 (.int 7))) (.o (.call 43 (.c (.aa 0) (.c (.aq 172 (.int 1)) (.c (.aa 1) (.o (.aa 2))))))))) (.o (.ret (.lit (.bool true)))) .n) (.c (.ite (.or (.c (.aB .eq (.aa 5) (.aq 87 (.int 7))) (.o (.aB .bt (.aa 5) (.aq 183 (.ae [.int 8, .int 9])))))) (.o (.ret (.call 43 (.c (.aa 0) (.c (.aq 184 (.int 6)) (.c (.aa 1) (.o (.aa 2)))))))) .n) (.o (.ret (.and (.c (.aB .eq (.aa 5) (.aq 101 (.int 12))) (.o (.call 43 (.c (.aa 0) (.c (.aq 185 (.int 12)) (.c (.aa 1) (.o (.aa 2)))))))))))))))))⟩
noncomputable def mw : aL := ⟨187, 3, 6, [], .c (.a 3 (.ar (.ar (.ar (.aa 0) 128) 119) 4)) (.c (.a 4 (.sub (.aa 3) (.aa 1))) (.c (.a 5 (.sub (.aa 3) (.aa 2))) (.c (.ite (.and (.c (.aB .eq (.sub (.aa 4) (ik 0)) (.sub (.aa 5) (ik 0))) (.o (.or (.c (.aB .eq (.sub (.aa 4) (ik 0)) (.aq 49 (.int 6))) (.o (.aB .eq (.sub (.aa 4) (ik 0)) (.aq 87 (.int 7))))))))) (.o (.ret (.and (.c .bS (.o .bS))))) .n) (.c (.ite (.or (.c (.aB .bt (.sub (.aa 4) (ik 0)) (.ae (.c (.aq 49 (.int 6)) (.o (.aq 87 (.int 7)))))) (.o (.aB .bt (.sub (.aa 5) (ik 0)) (.ae (.c (.aq 49 (.int 6)) (.o (.aq 87 (.int 7))))))))) (.o (.ret (.lit (.bool false)))) .n) (.o (.ret (.call 43 (.c (.aa 0) (.c (.call 56 (.c (.sub (.aa 4) (ik 0)) (.o (.sub (.aa 5) (ik 0))))) (.c (.aa 1) (.o (.aa 2))))))))))))⟩
noncomputable def mz : aL := ⟨188, 2, 2, [], .o (.ret (.aM (.aa 0) 6 (.o (.ae (.c (.aq 45 (.int 10)) (.o (.aa 1)))))))⟩
noncomputable def my : aL := ⟨189, 2, 3, [], .c (.a 2 (.sub (.ar (.aa 0) 9) (.aa 1))) (.o (.ret (.ite (.or (.c (.aB .lt (.aa 2) (ik 0)) (.o (.aB .eq (.aa 2) (.aq 65 (.int 0)))))) (.aq 67 (.int 1)) (.aa 2))))⟩
noncomputable def kU : aL := ⟨191, 3, 5, [], .c (.a 3 (.sub (.ar (.ar (.aa 0) 119) 4) (.aM (.aa 0) 190 (.o (.aa 1))))) (.c (.ite (.aB .ne (.sub (.aa 3) (ik 0)) (.aq 98 (.int 8))) (.o (.ret (.aq 48 (.int 2)))) .n) (.o (.ret (.call 14 (.c (.ar (.aa 0) 119) (.o (.comp (.call 5 (.c (.ar (.aa 0) 119) (.o (.sub (.aa 4) (ik 0))))) 4 (.sub (.aa 3) (ik 1)) (.o (.aB .eq (.fQ .band (.sub (.aa 4) (ik 2)) (.aa 2)) (ik 0))))))))))⟩
noncomputable def kW : aL := ⟨193, 2, 3, [], .c (.a 2 (.sub (.sub (.ar (.ar (.aa 0) 119) 4) (.aa 1)) (ik 0))) (.c (.ite (.or (.c (.aB .bt (.aa 2) (.aq 183 (.ae [.int 8, .int 9]))) (.o (.and (.c (.aB .eq (.aa 2) (.aq 87 (.int 7))) (.o (.not (.call 30 (.c (.ar (.aa 0) 119) (.o (.aa 1))))))))))) (.o (.ret (.call 63 (.c (.aa 0) (.c (.aa 1) (.o (.aq 192 (.int 24)))))))) .n) (.o (.ret (.call 15 (.c (.ar (.aa 0) 119) (.c (.aM (.aa 0) 127 (.o (.ae (.c (.aq 113 (.int 14)) (.o (.aa 1)))))) (.o (.ae (.c (.aq 52 (.int 6)) (.o (.aq 54 (.int 7))))))))))))⟩
noncomputable def mA : aL := ⟨194, 3, 3, [], .o (.ret (.aM (.ar (.ar (.aa 0) 128) 119) 6 (.o (.ae (.c (.aq 111 (.int 15)) (.c (.aa 1) (.o (.call 61 (.c (.ar (.ar (.aa 0) 128) 119) (.o (.sub (.aa 2) (ik 1))))))))))))⟩
noncomputable def f5 : aL := ⟨195, 1, 1, [], .o (.ret (.and (.c (.aB .eq (.sub (.aa 0) (ik 0)) (.aq 98 (.int 8))) (.o (.aB .eq (.Ql (.aa 0) 1 6) (.ae (.c (.ae .n) (.c (.ae .n) (.c (.ae .n) (.c (.ae .n) (.o (.ae .n))))))))))))⟩
noncomputable def bX : aL := ⟨197, 4, 6, [], .c (.ite (.and (.c (.aB .eq (.sub (.aa 2) (ik 0)) (.aq 105 (.int 17))) (.o (.call 76 (.c (.aa 0) (.c (.aa 2) (.o (.aa 3)))))))) (.o (.ret (.lit (.bool true)))) .n) (.c (.ite (.and (.c (.aB .eq (.sub (.aa 3) (ik 5)) (ik 1)) (.c (.call 66 (.o (.aa 2))) (.o (.aB .ne (.ar (.aa 0) 129) (.aq 157 (.int 4))))))) (.c (.ite (.aB .eq (.sub (.aa 2) (ik 6)) (ik 0)) (.o (.expr (.aM (.aa 0) 141 (.o (.aq 196 (.int 11)))))) .n) (.c (.a 4 (.sub (.ar (.ar (.ar (.aa 0) 128) 119) 4) (.sub (.aa 3) (ik 2)))) (.c (.ite (.and (.c (.aB .eq (.sub (.aa 4) (ik 0)) (.aq 113 (.int 14))) (.o .bS))) (.o (.expr (.aM (.aa 0) 141 (.o (.aq 156 (.int 15)))))) .n) (.o (.ret (.lit (.bool true))))))) .n) (.c (.ite (.or (.c (.aB .ge (.sub (.aa 3) (ik 3)) (ik 0)) (.o (.aB .eq (.sub (.aa 3) (ik 5)) (ik 2))))) (.o (.ret (.lit (.bool false)))) .n) (.c (.ite (.aB .eq (.sub (.aa 3) (ik 4)) (.call 65 (.c (.aa 0) (.c (.aa 1) (.o (.aa 3)))))) (.o (.a 5 (.call 70 (.c (.aa 0) (.c (.aa 1) (.o (.aa 3))))))) (.o (.a 5 (.and (.c (.aB .ne (.sub (.aa 2) (ik 0)) (.aq 105 (.int 17))) (.o (.call 72 (.c (.aa 0) (.c (.aa 1) (.o (.aa 3))))))))))) (.c (.ite (.and (.c (.aa 5) (.o (.call 31 (.c (.ar (.ar (.aa 0) 128) 119) (.o (.aa 1))))))) (.o (.expr (.aM (.aa 0) 141 (.o (.aq 156 (.int 15)))))) .n) (.o (.ret (.aa 5)))))))⟩
noncomputable def jG : aL := ⟨199, 3, 5, [], .c (.a 3 (.ar (.aa 0) 128)) (.c (.ite (.aB .eq (.aa 2) (.aM (.aa 3) 127 (.o (.ae (.c (.aq 113 (.int 14)) (.o (.aa 1))))))) (.o .nq) .n) (.c (.ite (.aB .bt (.sub (.sub (.ar (.ar (.aa 3) 119) 4) (.aa 1)) (ik 0)) (.aq 183 (.ae [.int 8, .int 9]))) (.c (.a 4 (.sub (.ar (.ar (.aa 3) 119) 4) (.aM (.aa 3) 190 (.o (.aa 1))))) (.o (.ite (.and (.c (.aB .eq (.sub (.aa 4) (ik 4)) (.ae .n)) (.o (.aB .eq (.sub (.aa 4) (ik 5)) (.ae .n))))) (.o .nq) .n))) .n) (.o (.expr (.aM (.aa 0) 141 (.o (.aq 198 (.int 5))))))))⟩
noncomputable def jF : aL := ⟨200, 3, 4, [], .c (.a 3 (.sub (.ar (.aa 0) 4) (.aa 2))) (.o (.ret (.aB .eq (.sub (.ar (.aa 0) 4) (.ite (.aB .eq (.sub (.aa 3) (ik 0)) (.aq 87 (.int 7))) (.sub (.sub (.aa 3) (ik 1)) (ik 0)) (.aa 2))) (.ae (.c (.aq 113 (.int 14)) (.o (.aa 1)))))))⟩
noncomputable def jB : aL := ⟨202, 3, 4, [], .c (.a 3 (.and (.c (.aB .eq (.sub (.aa 2) (ik 6)) (ik 0)) (.o (.call 69 (.c (.ar (.ar (.aa 0) 128) 119) (.c (.aa 1) (.o (.sub (.aa 2) (ik 2)))))))))) (.c (.ite (.or (.c (.aB .eq (.sub (.aa 2) (ik 6)) (ik 2)) (.o (.and (.c (.aB .eq (.sub (.aa 2) (ik 6)) (ik 0)) (.c (.not (.aa 3)) (.o (.call 71 (.c (.ar (.aa 0) 128) (.o (.aa 1))))))))))) (.o (.expr (.aM (.aa 0) 141 (.o (.aq 201 (.int 4)))))) .n) (.c (.ite (.and (.c (.aB .eq (.sub (.aa 2) (ik 5)) (ik 1)) (.o (.aB .ne (.sub (.aa 2) (ik 6)) (ik 1))))) (.o (.expr (.aM (.aa 0) 141 (.o (.aq 162 (.int 3)))))) .n) (.c (.ite (.aB .eq (.sub (.aa 2) (ik 5)) (ik 0)) (.o (.expr (.call 68 (.c (.aa 0) (.c (.aa 1) (.o (.sub (.aa 2) (ik 2)))))))) .n) (.o (.ret (.lit (.bool true)))))))⟩
noncomputable def iU : aL := ⟨204, 2, 3, [], .c (.ite (.aB .d9 (.sub (.sub (.ar (.ar (.aa 0) 119) 4) (.aa 1)) (ik 0)) (.aq 183 (.ae [.int 8, .int 9]))) (.o (.ret (.lit (.bool true)))) .n) (.o (.ret (.fn .any (.comp (.aB .ne (.fQ .band (.sub (.aa 2) (ik 2)) (.aq 203 (.int 2))) (ik 0)) 2 (.sub (.sub (.ar (.ar (.aa 0) 119) 4) (.aM (.aa 0) 190 (.o (.aa 1)))) (ik 1)) .n))))⟩
noncomputable def cV : aL := ⟨205, 3, 7, [], .c (.a 3 (.ar (.aa 0) 128)) (.c (.a 4 (.ite (.aB .eq (.sub (.aa 2) (ik 5)) (ik 1)) (.call 16 (.c (.ar (.aa 3) 119) (.o (.sub (.aa 2) (ik 4))))) (.sub (.aa 2) (ik 4)))) (.c (.ite (.not (.aM (.aa 0) 140 (.c (.sub (.aa 2) (ik 2)) (.o (.call 64 (.c (.aa 3) (.o (.aa 1)))))))) (.o (.ret (.lit (.bool false)))) .n) (.c (.a 5 (.aM (.aa 3) 127 (.o (.ae (.c (.aq 111 (.int 15)) (.c (.aa 1) (.o (.call 61 (.c (.ar (.aa 3) 119) (.o (.sub (.aa 2) (ik 1)))))))))))) (.c (.ite (.not (.aM (.aa 0) 140 (.c (.aa 5) (.o (.aa 4))))) (.o (.ret (.lit (.bool false)))) .n) (.c (.ite (.and (.c (.aB .eq (.sub (.aa 2) (ik 5)) (ik 0)) (.o (.aB .d9 (.sub (.sub (.ar (.ar (.aa 3) 119) 4) (.aa 1)) (ik 0)) (.aq 183 (.ae [.int 8, .int 9])))))) (.o (.expr (.call 68 (.c (.aa 0) (.c (.aa 1) (.o (.sub (.aa 2) (ik 2)))))))) .n) (.c (.ite (.aB .ne (.sub (.aa 2) (ik 6)) (ik 1)) (.c (.expr (.call 52 (.c (.aa 0) (.c (.aa 5) (.o (.aa 4)))))) (.c (.a 6 (.and (.c (.aB .eq (.sub (.aa 2) (ik 6)) (ik 0)) (.o (.call 69 (.c (.ar (.aa 3) 119) (.c (.aa 1) (.o (.sub (.aa 2) (ik 2)))))))))) (.o (.ite (.and (.c (.not (.aa 6)) (.o (.call 71 (.c (.aa 3) (.o (.aa 1))))))) (.o (.expr (.aM (.aa 0) 141 (.o (.aq 201 (.int 4)))))) .n)))) .n) (.o (.ret (.lit (.bool true))))))))))⟩
noncomputable def mB : aL := ⟨206, 1, 1, [], .o (.ret (.ite (.aB .eq (.aa 0) (ik 2)) (.neg (ik 1)) (.aa 0)))⟩
noncomputable def oT : aL := ⟨207, 3, 5, [], .c (.a 3 (.sub (.ar (.ar (.ar (.aa 0) 128) 119) 4) (.aa 2))) (.c (.a 4 (.sub (.ar (.ar (.ar (.aa 0) 128) 119) 4) (.aa 1))) (.c (.ite (.and (.c (.aB .eq (.sub (.aa 3) (ik 0)) (.aq 113 (.int 14))) (.o (.aB .eq (.sub (.aa 4) (ik 0)) (.aq 113 (.int 14)))))) (.o (.ret (.aM (.aa 0) 140 (.c (.sub (.aa 3) (ik 1)) (.o (.sub (.aa 4) (ik 1))))))) .n) (.o (.ret (.aM (.aa 0) 140 (.c (.aa 1) (.o (.aa 2))))))))⟩
noncomputable def gQ : aL := ⟨208, 3, 3, [], .c (.ite (.aB .eq (.ar (.aa 0) 129) (.aq 147 (.int 3))) (.o (.ret (.and (.c (.aB .eq (.sub (.aa 1) (ik 5)) (.sub (.aa 2) (ik 5))) (.c (.aB .eq (.sub (.aa 1) (ik 6)) (.sub (.aa 2) (ik 6))) (.o (.aM (.aa 0) 142 (.c (.sub (.aa 1) (ik 2)) (.o (.sub (.aa 2) (ik 2))))))))))) .n) (.c (.ite (.and (.c (.aB .ne (.ar (.aa 0) 129) (.aq 152 (.int 2))) (.o (.aB .gt (.call 73 (.o (.sub (.aa 1) (ik 5)))) (.call 73 (.o (.sub (.aa 2) (ik 5)))))))) (.o (.ret (.lit (.bool false)))) .n) (.o (.ret (.call 74 (.c (.aa 0) (.c (.sub (.aa 2) (ik 2)) (.o (.sub (.aa 1) (ik 2)))))))))⟩
noncomputable def jE : aL := ⟨209, 3, 4, [], .c (.ite (.or (.c (.aB .ge (.sub (.aa 1) (ik 3)) (ik 0)) (.c (.aB .ge (.sub (.aa 2) (ik 3)) (ik 0)) (.o (.not (.call 75 (.c (.aa 0) (.c (.aa 1) (.o (.aa 2)))))))))) (.o (.ret (.lit (.bool false)))) .n) (.c .bS (.c .bS (.c .bS (.c .bS (.c .bS (.o .bS))))))⟩
noncomputable def f9 : aL := ⟨190, 2, 2, [], .o (.ret (.call 34 (.c (.ar (.aa 0) 119) (.o (.aa 1)))))⟩
noncomputable def f7 : aL := ⟨144, 4, 4, [], .o (.ret (.and (.c (.aB .ne (.ar (.aa 1) 129) (.aq 147 (.int 3))) (.o (.call 79 (.c (.aa 1) (.c (.aa 2) (.o (.aa 3)))))))))⟩
noncomputable def ig : aL := ⟨210, 3, 5, [], .c (.a 3 (.sub (.ar (.ar (.ar (.aa 0) 128) 119) 4) (.aa 1))) (.c (.ite (.aB .ne (.sub (.aa 3) (ik 0)) (.aq 45 (.int 10))) (.o (.ret (.lit (.bool false)))) .n) (.c (.a 4 (.call 62 (.c (.ar (.ar (.aa 0) 128) 119) (.o (.sub (.aa 3) (ik 1)))))) (.o (.ret (.and (.c (.aB .ne (.aa 4) (.aa 1)) (.o (.aM (.aa 0) 140 (.c (.aa 4) (.o (.aa 2)))))))))))⟩
noncomputable def eN : aL := ⟨211, 1, 1, [], .o (.sI (.ar (.aa 0) 130) (.aq 174 (.int 2)) (.new 5 .n))⟩
noncomputable def oR : aL := ⟨213, 2, 4, [], .c (.a 2 (.sub (.aa 0) (ik 0))) (.c (.sI (.aa 0) (ik 0) (.fQ .add (.aa 2) (ik 1))) (.c (.a 3 (.ite (.aB .lt (.aa 2) (.fn .len (.sub (.aa 0) (ik 1)))) (.sub (.sub (.aa 0) (ik 1)) (.aa 2)) (.sub (.aq 212 (.ae [.int 0, .int 0, .int 1, .int 1, .int 2, .int 0, .int 1, .int 0, .int 0, .int 0, .int 0, .int 5, .int 5, .int 1, .int 1, .int 3, .int 0, .int 1, .int 2, .int 0, .int 7, .int 1, .int 1, .int 0, .int 0, .int 0, .int 1, .int 0, .int 0, .int 0])) (.fQ .mod (.aa 2) (ik 30))))) (.o (.ret (.fQ .mod (.aa 3) (.aa 1))))))⟩
noncomputable def oS : aL := ⟨216, 2, 4, [], .c (.a 2 (.ae (.c (.ae (.c (ik 3) (.c (sk 214) (.o (ik 0))))) (.c (.ae (.c (ik 3) (.c (sk 215) (.o (ik 0))))) (.c (.ae (.c (ik 4) (.c (ik 1) (.o (ik 0))))) (.c (.ae (.c (ik 1) (.o (sk 22)))) (.o (.ae (.c (ik 1) (.o (sk 21))))))))))) (.o (.ret (.call 14 (.c (.aa 0) (.o (.comp (.aM (.aa 0) 6 (.o (.sub (.aa 2) (.aa 3)))) 3 (.range (ik 5)) (.o (.aB .eq (.fQ .mod (.fQ .fdiv (.aa 1) (.fQ .pow (ik 2) (.aa 3))) (ik 2)) (ik 1)))))))))⟩
noncomputable def kY : aL := ⟨221, 1, 5, [], .c (.a 1 (.dict .str [])) (.c (.dK 2 (.ae (.c (sk 217) (.o (sk 218)))) (.c (.a 3 (.call 81 (.c (.aa 0) (.o (ik 48))))) (.o (.ite (.aB .gt (.fQ .mod (.aa 3) (ik 4)) (ik 0)) (.o (.sI (.aa 1) (.aa 2) (.ae (.c (.sub (.ae (.c (ik 1) (.c (ik 2) (.c (ik 3) (.c (ik 4) (.c (ik 17) (.o (ik 7)))))))) (.fQ .fdiv (.aa 3) (ik 8))) (.c (.aB .eq (.fQ .mod (.aa 3) (ik 4)) (ik 2)) (.o (.aB .eq (.fQ .mod (.fQ .fdiv (.aa 3) (ik 4)) (ik 2)) (ik 1)))))))) .n)))) (.c (.a 4 (.call 81 (.c (.aa 0) (.o (ik 4))))) (.c (.ite (.aB .eq (.fQ .mod (.aa 4) (ik 2)) (ik 1)) (.o (.sI (.aa 1) (sk 219) (.ae (.c (ik 7) (.c (.lit (.bool false)) (.o (.lit (.bool false)))))))) .n) (.c (.ite (.aB .gt (.aa 4) (ik 1)) (.o (.sI (.aa 1) (sk 220) (.ae (.c (ik 3) (.c (.lit (.bool false)) (.o (.lit (.bool false)))))))) .n) (.c (.ite (.aB .eq (.fn .len (.aa 1)) (ik 0)) (.o (.sI (.aa 1) (sk 217) (.ae (.c (ik 1) (.c (.lit (.bool false)) (.o (.lit (.bool false)))))))) .n) (.o (.ret (.aa 1))))))))⟩
noncomputable def qO : aL := ⟨222, 2, 8, [], .c (.a 2 (.list .n)) (.c (.a 3 (.list (.c (.ae .n) (.o (.ae .n))))) (.c (.dK 4 (.aa 1) (.c (.iB [5, 6, 7] (.sub (.aa 1) (.aa 4))) (.o (.ite (.aB .bt (.aa 4) (.ae (.c (sk 219) (.o (sk 220))))) (.o (.sI (.aa 3) (.ite (.aB .eq (.aa 4) (sk 220)) (ik 1) (ik 0)) (.ae (.c (.call 82 (.c (.aa 0) (.o (.aa 5)))) (.o (ik 0)))))) (.o (.expr (.aM (.aa 2) 0 (.o (.ae (.c (.aa 4) (.c (.call 82 (.c (.aa 0) (.o (.aa 5)))) (.c (.fQ .add (.ite (.aa 6) (ik 1) (ik 0)) (.ite (.aa 7) (ik 2) (ik 0))) (.o (ik 0)))))))))))))) (.o (.ret (.aM (.aa 0) 6 (.o (.ae (.c (ik 8) (.c (.fn .tuple (.aa 2)) (.c (.ae .n) (.c (.ae .n) (.c (.sub (.aa 3) (ik 0)) (.c (.sub (.aa 3) (ik 1)) (.o (ik 0)))))))))))))))⟩
noncomputable def kX : aL := ⟨224, 1, 8, [], .c (.a 1 (.fn .dict (.aa 0))) (.c (.sI (.aa 1) (sk 223) (.ae (.c (ik 2) (.c (.lit (.bool false)) (.o (.lit (.bool false))))))) (.c (.a 2 (.dict .str [])) (.c (.dK 3 (.aa 1) (.c (.iB [4, 5, 6] (.sub (.aa 1) (.aa 3))) (.o (.sI (.aa 2) (.aa 3) (.ae (.c (.aa 4) (.c (.aa 5) (.o (.aB .d9 (.aa 3) (.ae (.c (sk 219) (.o (sk 220))))))))))))) (.c (.a 7 (.fn .dict (.aa 0))) (.c (.ite (.aB .d9 (sk 220) (.aa 7)) (.o (.sI (.aa 7) (sk 220) (.ae (.c (ik 7) (.c (.lit (.bool false)) (.o (.lit (.bool false)))))))) .n) (.o (.ret (.list (.c (.aa 0) (.c (.aa 1) (.c (.aa 2) (.o (.aa 7)))))))))))))⟩
noncomputable def a0 : aL := ⟨229, 2, 20, [], .c (.a 2 (.call 81 (.c (.aa 0) (.o (ik 10))))) (.c (.a 3 (.call 83 (.o (.aa 0)))) (.c (.a 4 (.call 84 (.c (.aa 1) (.o (.aa 3))))) (.c (.a 5 (.call 85 (.o (.aa 3)))) (.c (.a 6 (.call 85 (.o (.dict .str [(.str 217, .ae [.int 1, .bool false, .bool false]), (.str 218, .ae [.int 2, .bool true, .bool false])])))) (.c (.ite (.aB .bt (.aa 2) (.ae (.c (ik 2) (.c (ik 7) (.o (ik 9)))))) (.o (.a 7 (.call 81 (.c (.aa 0) (.o (ik 2)))))) .n) (.c (.ite (.aB .eq (.aa 2) (ik 1)) (.o (.ret (.ae (.c (.call 6 (.c (.aa 1) (.c (sk 225) (.c (.aa 4) (.o (.neg (ik 1))))))) (.c (.aa 5) (.c (.lit (.bool false)) (.c (.aa 2) (.o (.neg (ik 1)))))))))) .n) (.c (.ite (.aB .eq (.aa 2) (ik 2)) (.o (.ret (.ae (.c (.call 6 (.c (.aa 1) (.c (sk 225) (.c (.call 14 (.c (.aa 1) (.o (.list (.c (.aa 4) (.o (.fQ .add (ik 4) (.aa 7)))))))) (.o (.neg (ik 1))))))) (.c (.aa 5) (.c (.lit (.bool true)) (.c (.aa 2) (.o (.neg (ik 1)))))))))) .n) (.c (.ite (.aB .eq (.aa 2) (ik 3)) (.c (.a 8 (.call 6 (.c (.aa 1) (.c (sk 226) (.c (.aa 4) (.o (.neg (ik 1)))))))) (.o (.ret (.ae (.c (.call 6 (.c (.aa 1) (.c (sk 225) (.c (.aa 8) (.o (.neg (ik 1))))))) (.c (.aa 5) (.c (.lit (.bool false)) (.c (.aa 2) (.o (.aa 8)))))))))) .n) (.c (.ite (.aB .eq (.aa 2) (ik 4)) (.o (.ret (.ae (.c (.aa 4) (.c (.list (.o (.aa 3))) (.c (.lit (.bool false)) (.c (.aa 2) (.o (.neg (ik 1)))))))))) .n) (.c (.ite (.aB .eq (.aa 2) (ik 5)) (.c (.a 9 (.call 7 (.c (.aa 1) (.c (ik 2) (.o (sk 227)))))) (.c (.sA (.aa 9) 31 (.aa 4)) (.o (.ret (.ae (.c (.aM (.aa 1) 6 (.o (.ae (.c (ik 9) (.c (.ar (.aa 9) 27) (.o (.ae .n))))))) (.c (.list (.o (.aa 3))) (.c (.lit (.bool false)) (.c (.aa 2) (.o (.neg (ik 1)))))))))))) .n) (.c (.a 10 (.call 6 (.c (.aa 1) (.c (sk 225) (.c (.neg (ik 1)) (.o (.neg (ik 1)))))))) (.c (.ite (.aB .eq (.aa 2) (ik 0)) (.o (.ret (.ae (.c (.aa 10) (.c (.aa 6) (.c (.lit (.bool true)) (.c (.aa 2) (.o (.neg (ik 1)))))))))) .n) (.c (.ite (.aB .eq (.aa 2) (ik 6)) (.c (.a 11 (.aM (.aa 1) 6 (.o (.ae (.c (ik 8) (.c (.ae (.o (.ae (.c (sk 223) (.c (.aM (.aa 1) 6 (.o (.ae (.c (ik 3) (.c (sk 215) (.o (ik 0))))))) (.c (ik 0) (.o (ik 0)))))))) (.c (.ae .n) (.c (.ae .n) (.c (.ae .n) (.c (.ae .n) (.o (ik 0)))))))))))) (.o (.ret (.ae (.c (.aM (.aa 1) 6 (.o (.ae (.c (ik 7) (.o (.ae (.c (.aa 10) (.o (.aa 11))))))))) (.c (.aa 6) (.c (.lit (.bool false)) (.c (.aa 2) (.o (.neg (ik 1))))))))))) .n) (.c (.ite (.aB .eq (.aa 2) (ik 8)) (.o (.ret (.ae (.c (.aM (.aa 1) 6 (.o (.ae (.c (ik 15) (.c (.aa 10) (.o (.aM (.aa 1) 6 (.o (.ae (.c (ik 3) (.c (sk 217) (.o (ik 0))))))))))))) (.c (.aa 6) (.c (.lit (.bool true)) (.c (.aa 2) (.o (.neg (ik 1)))))))))) .n) (.c (.ite (.aB .eq (.aa 2) (ik 7)) (.c (.a 12 (.call 6 (.c (.aa 1) (.c (sk 226) (.c (.ite (.aB .eq (.aa 7) (ik 1)) (.aa 4) (.neg (ik 1))) (.o (.neg (ik 1)))))))) (.o (.ret (.ae (.c (.aM (.aa 1) 6 (.o (.ae (.c (ik 7) (.o (.ae (.c (.aa 10) (.o (.aa 12))))))))) (.c (.ite (.aB .eq (.aa 7) (ik 1)) (.aa 5) (.aa 6)) (.c (.aB .eq (.aa 7) (ik 0)) (.c (.aa 2) (.o (.neg (ik 1))))))))))) .n) (.c (.a 13 (.aM (.aa 1) 6 (.o (.ae (.c (ik 14) (.o (.call 6 (.c (.aa 1) (.c (sk 226) (.c (.ite (.aB .eq (.aa 7) (ik 1)) (.aa 4) (.call 14 (.c (.aa 1) (.o (.list (.c (.aa 4) (.o (ik 5)))))))) (.o (.neg (ik 1))))))))))))) (.c (.a 14 (.call 6 (.c (.aa 1) (.c (sk 228) (.c (.aa 13) (.o (.neg (ik 1)))))))) (.c (.a 15 (.aM (.aa 1) 6 (.o (.ae (.c (ik 17) (.c (.sub (.sub (.ar (.aa 1) 4) (.aa 14)) (ik 1)) (.c (.aa 13) (.c (.neg (ik 1)) (.c (.aM (.aa 1) 6 (.o (.ae (.c (ik 3) (.c (sk 214) (.o (ik 0))))))) (.c (ik 0) (.o (ik 0)))))))))))) (.c (.a 16 (.list .n)) (.c (.dK 17 (.aa 5) (.c (.a 18 (.dict .str [])) (.c (.dK 19 (.aa 17) (.o (.sI (.aa 18) (.aa 19) (.ae (.c (ik 1) (.c (.sub (.sub (.aa 17) (.aa 19)) (ik 1)) (.o (.sub (.sub (.aa 17) (.aa 19)) (ik 2))))))))) (.o (.expr (.aM (.aa 16) 0 (.o (.aa 18)))))))) (.o (.ret (.ae (.c (.aa 15) (.c (.aa 16) (.c (.aB .eq (.aa 7) (ik 0)) (.c (.aa 2) (.o (.neg (ik 1))))))))))))))))))))))))))))))⟩
noncomputable def mC : aL := ⟨230, 6, 15, [], .c (.a 6 (.list .n)) (.c (.dK 7 (.aa 0) (.o (.dK 8 (.aa 7) (.c (.iB [9, 10, 11] (.sub (.aa 7) (.aa 8))) (.c (.a 12 (.aB .bt (.aa 8) (.ae (.c (sk 219) (.o (sk 220)))))) (.c (.a 13 (.ite (.aa 10) (.fQ .C3 (.aa 9) (ik 16)) (.aa 9))) (.c (.a 14 (.ite (.aB .eq (.aa 3) (ik 1)) (.fQ .C3 (.fQ .C3 (.aa 13) (.aa 5)) (ik 16)) (.fQ .C3 (.aa 13) (.aa 5)))) (.c (.ite (.and (.c (.aa 12) (.o (.aa 2)))) (.o .cont) .n) (.c (.ite (.and (.c (.aa 12) (.o (.aB .eq (.fQ .mod (.fQ .fdiv (.aa 14) (ik 16)) (ik 2)) (ik 0))))) (.o (.expr (.aM (.aa 6) 0 (.o (ik 5))))) .n) (.c (.ite (.or (.c (.aB .eq (.aa 4) (ik 1)) (.o (.and (.c (.aB .eq (.aa 4) (ik 0)) (.c (.aa 1) (.o (.aa 11)))))))) (.o .cont) .n) (.c (.ite (.aa 11) (.o (.expr (.aM (.aa 6) 0 (.o (ik 4))))) .n) (.o (.ite (.aB .ne (.aa 14) (.aa 13)) (.o (.expr (.aM (.aa 6) 0 (.o (ik 3))))) .n))))))))))))) (.o (.ret (.aa 6))))⟩
noncomputable def mD : aL := ⟨231, 2, 5, [], .c (.a 2 (.comp (.aa 3) 3 (.ae (.c (ik 3) (.c (ik 4) (.c (ik 5) (.o (ik 15)))))) (.o (.aB .bt (.ae (.c (.aa 3) (.o (.aa 1)))) (.aa 0))))) (.o (.ret (.ite (.fn .all (.comp (.and (.c (.aB .eq (.sub (.aa 4) (ik 1)) (.aa 1)) (.o (.aB .bt (.sub (.aa 4) (ik 0)) (.aa 2))))) 4 (.aa 0) .n)) (.aa 2) (.list (.o (ik 0))))))⟩
noncomputable def bz : aL := ⟨237, 3, 33, [], .c (.iB [3, 4, 5, 6, 7] (.call 86 (.c (.aa 0) (.o (.aa 1))))) (.c (.a 8 (.call 81 (.c (.aa 0) (.o (ik 7))))) (.c (.a 9 (.call 81 (.c (.aa 0) (.o (ik 6))))) (.c (.a 10 (.sub (.ae (.c (ik 0) (.c (ik 1) (.c (ik 0) (.o (ik 2)))))) (.call 81 (.c (.aa 0) (.o (ik 4)))))) (.c (.a 11 (.call 81 (.c (.aa 0) (.o (ik 3))))) (.c (.a 12 (.aB .eq (.call 81 (.c (.aa 0) (.o (ik 9)))) (ik 8))) (.c (.a 13 (.comp (.aM (.aa 1) 6 (.o (.ae (.c (ik 3) (.c (.aa 31) (.o (ik 0))))))) 31 (.sub (.aa 4) (ik 0)) (.o (.and (.c (.aB .bt (.aa 31) (.ae (.c (sk 217) (.o (sk 218))))) (.o (.aB .bt (.aa 6) (.ae (.c (ik 1) (.c (ik 3) (.c (ik 4) (.o (ik 5))))))))))))) (.c (.ite (.and (.c (.aB .eq (.aa 8) (ik 5)) (.o (.aB .eq (.aa 13) (.list .n))))) (.o (.a 8 (ik 1))) .n) (.c (.ite (.and (.c (.aB .eq (.aa 8) (ik 6)) (.o (.aB .lt (.aa 7) (ik 0))))) (.o (.a 8 (ik 0))) .n) (.c (.ite (.and (.c (.aB .bt (.aa 9) (.ae (.c (ik 1) (.o (ik 2))))) (.o (.or (.c (.aB .bt (.aa 6) (.ae (.c (ik 4) (.o (ik 5))))) (.o (.aB .gt (.aa 8) (ik 2)))))))) (.o (.a 9 (ik 0))) .n) (.c (.a 14 (.aM (.aa 1) 6 (.o (.ae (.c (ik 14) (.o (.aa 3))))))) (.c (.a 15 (.call 6 (.c (.aa 1) (.c (sk 232) (.c (.aa 14) (.o (.neg (ik 1)))))))) (.c (.a 16 (.call 6 (.c (.aa 1) (.c (sk 233) (.c (.aa 15) (.o (.neg (ik 1)))))))) (.c (.a 17 (.ite (.aB .ge (.aa 7) (ik 0)) (.aM (.aa 1) 6 (.o (.ae (.c (ik 14) (.o (.aa 7)))))) (.aa 14))) (.c (.a 18 (.sub (.ae (.c (.aa 14) (.c (.aa 15) (.c (.aa 16) (.c (.aM (.aa 1) 6 (.o (.ae (.c (ik 7) (.o (.ae (.c (.aa 14) (.o (.aa 15))))))))) (.c (.aM (.aa 1) 6 (.o (.ae (.c (ik 7) (.o (.ae (.c (.aa 15) (.o (.aa 14))))))))) (.c (.call 14 (.c (.aa 1) (.o (.aa 13)))) (.o (.aa 17))))))))) (.aa 8))) (.c (.a 19 (.call 6 (.c (.aa 1) (.c (sk 234) (.c (.aa 18) (.o (.neg (ik 1)))))))) (.c (.a 20 (.aM (.aa 1) 6 (.o (.ae (.c (ik 15) (.c (.aa 3) (.o (.aa 19)))))))) (.c (.a 21 (.call 6 (.c (.aa 1) (.c (sk 235) (.c (.neg (ik 1)) (.o (.neg (ik 1)))))))) (.c (.a 22 (.aM (.aa 1) 6 (.o (.ae (.c (ik 15) (.c (.aa 3) (.o (.call 6 (.c (.aa 1) (.c (sk 236) (.c (.aa 14) (.o (.neg (ik 1)))))))))))))) (.c (.a 23 (.sub (.ae (.c (.aa 20) (.c (.call 14 (.c (.aa 1) (.o (.list (.c (.aa 20) (.o (ik 5))))))) (.c (.call 14 (.c (.aa 1) (.o (.list (.c (.aa 20) (.o (ik 7))))))) (.c (ik 5) (.c (.aa 22) (.o (.aM (.aa 1) 6 (.o (.ae (.c (ik 15) (.c (.aa 21) (.o (.aa 19)))))))))))))) (.aa 9))) (.c (.a 24 (.ae (.c (ik 17) (.c (.sub (.sub (.ar (.aa 1) 4) (.aa 19)) (ik 1)) (.c (.aa 18) (.c (.ite (.aa 12) (.aa 19) (.neg (ik 1))) (.c (.aa 23) (.c (.aa 10) (.o (.aa 11)))))))))) (.c (.a 25 (.and (.c (.not (.aa 12)) (.c (.aB .lt (.aa 10) (ik 2)) (.o (.or (.c (.aB .eq (.aa 9) (ik 0)) (.o (.and (.c (.aB .lt (.aa 9) (ik 3)) (.o (.aB .lt (.aa 6) (ik 9))))))))))))) (.c (.a 26 (.list .n)) (.c (.ite (.and (.c (.aa 25) (.o (.ar (.aa 2) 137)))) (.c (.a 26 (.call 87 (.c (.aa 4) (.c (.aB .bt (.aa 8) (.ae (.c (ik 0) (.o (ik 3))))) (.c (.aB .eq (.aa 8) (ik 0)) (.c (.aa 10) (.c (.aa 11) (.o (.sub (.ae (.c (ik 0) (.c (ik 8) (.c (ik 32) (.c (ik 0) (.c (ik 0) (.o (ik 0)))))))) (.aa 9)))))))))) (.o (.a 26 (.fQ .add (.fQ .add (.aa 26) (.ite (.aB .eq (.aa 11) (ik 2)) (.list (.o (ik 4))) (.list .n))) (.ite (.and (.c (.aB .eq (.aa 10) (ik 1)) (.o (.aB .ne (.aa 11) (ik 1))))) (.list (.o (ik 3))) (.list .n)))))) .n) (.c (.a 27 (.comp (.aa 32) 32 (.ae (.c (ik 3) (.c (ik 4) (.o (ik 5))))) (.o (.aB .bt (.aa 32) (.aa 26))))) (.c (.a 28 (.ite (.and (.c (.aa 25) (.c (.ar (.aa 2) 137) (.o (.aa 5))))) (.list (.o (ik 15))) (.list .n))) (.c (.a 29 (.fn .len (.ar (.ar (.aa 2) 136) 4))) (.c (.dK 30 (.range (ik 2)) (.c (.ite (.aB .ne (.call 67 (.c (.aa 2) (.c (.aa 3) (.c (.sub (.ar (.aa 1) 4) (.aa 3)) (.o (.aa 24)))))) (.aa 25)) (.o (.ret (.lit (.bool false)))) .n) (.o (.ite (.aB .ne (.call 88 (.c (.from (.ar (.ar (.aa 2) 136) 4) (.aa 29)) (.o (.ar (.aa 2) 39)))) (.fQ .add (.aa 27) (.aa 28))) (.o (.ret (.lit (.bool false)))) .n)))) (.c (.ite (.or (.c (.aB .gt (.aa 9) (ik 0)) (.o (.not (.aa 25))))) (.o (.ret (.lit (.bool true)))) .n) (.c (.a 29 (.fn .len (.ar (.ar (.aa 2) 136) 4))) (.o (.ret (.and (.c (.aB .is (.call 70 (.c (.aa 2) (.c (.aa 3) (.o (.aa 24))))) (.lit (.bool true))) (.o (.aB .eq (.call 88 (.c (.from (.ar (.ar (.aa 2) 136) 4) (.aa 29)) (.o (.ar (.aa 2) 39)))) (.aa 27))))))))))))))))))))))))))))))))))))⟩
noncomputable def CI : aL := ⟨238, 1, 8, [], .c (.a 1 (.list (.c (ik 0) (.o (.comp (.aa 7) 7 (.yY (.aa 0) (ik 48)) .n))))) (.c (.a 2 (.new 0 .n)) (.c (.a 3 (.sub (.ae (.c (ik 1) (.c (ik 4) (.c (ik 1) (.o (ik 2)))))) (.call 81 (.c (.aa 1) (.o (ik 4)))))) (.c (.a 4 (.aB .lt (.call 81 (.c (.aa 1) (.o (ik 6)))) (ik 5))) (.c (.a 5 (.new 3 (.c (.new 2 (.o (.aa 2))) (.o (.aa 3))))) (.c (.expr (.call 80 (.o (.aa 5)))) (.c (.sA (.aa 5) 137 (.and (.c (.aB .eq (.aa 3) (ik 1)) (.o (.aa 4))))) (.c (.dK 6 (.range (.fQ .add (ik 3) (.fQ .fdiv (.fn .len (.sub (.aa 1) (ik 1))) (ik 16)))) (.c (.sA (.aa 5) 39 (.aa 6)) (.o (.ite (.not (.call 89 (.c (.aa 1) (.c (.aa 2) (.o (.aa 5)))))) (.o (.ret (.lit (.bool false)))) .n)))) (.o (.ret (.and (.c (.aB .eq (.ar (.aa 5) 133) (.list .n)) (.o (.aB .eq (.ar (.aa 5) 131) (.dict .ae []))))))))))))))⟩
noncomputable def zN : List aL := [lq, mH, gR, ij, mI, jX, fZ, oQ, oP, iP, iT, kZ, iR, uV, yF, qK, mF, k7, oU, jz, jD, uW, eZ, k9, jC, oO, mx, k8, qN, jH, lg, eE, dC, eo, jA, mG, lp, fb, oZ, qQ, oX, oW, oY, qP, jy, qL, oV, qM, mE, iS, jI, yG, jx, gP, iQ, kT, oN, lh, mv, oM, mw, mz, my, kU, kW, mA, f5, bX, jG, jF, jB, iU, cV, mB, oT, gQ, jE, f9, f7, ig, eN, oR, oS, kY, qO, kX, a0, mC, mD, bz, CI]
noncomputable def IP (c : Nat) : Option (Option Nat) := if c = 0 then some (some 2) else if c = 1 then some (some 4) else if c = 2 then some (some 35) else if c = 3 then some (some 38) else if c = 4 then some (some 0) else if c = 5 then some none else none
noncomputable def wH (c m : Nat) : Option Nat := if c = 0 /\ m = 6 then some 3 else if c = 2 /\ m = 126 then some 36 else if c = 2 /\ m = 127 then some 37 else if c = 2 /\ m = 190 then some 77 else if c = 3 /\ m = 140 then some 39 else if c = 3 /\ m = 143 then some 42 else if c = 3 /\ m = 141 then some 40 else if c = 3 /\ m = 142 then some 41 else if c = 4 /\ m = 6 then some 1 else if c = 5 /\ m = 144 then some 78 else none
noncomputable def NT : List String := ["append", "pop", "extend", "get", "rows", "__init__", "put", "index", "decls", "bounds", "defaults", "names", "origins", "renamed", "shaping", "putting", "FIRST_ROWS", "any", "unknown", "never", "void", "undefined", "null", "string", "number", "object", "error", "did", "kind", "name", "params", "body", "bases", "static", "extends_class", "abstract", "members", "variances", "busy", "at", "", "file", "nid", "Y_STR", "str_type", "Y_PARAM", "new_param", "new_decl", "NEVER", "Y_UNION", "parts_of", "Y_TPL", "STRING", "Y_NUM", "NUMBER", "Y_ENUM", "whole_of_row", "MARKED_ROWS", "regular_twin", "FALSE_T", "FRESH_F", "TRUE_T", "FRESH_T", "join_bools", "stays_beside", "ANY", "ERR", "UNKNOWN", "top_of", "MAX_UNION", "union", "without", "UNDEF", "add_undef", "LITERAL_ROWS", "is_literal", "is_fresh", "regular_one", "FAM_OTHER", "FAM_OBJ", "EMPTY", "meet_family", "Y_KEY", "KEY_FAMILIES", "Y_BOOL", "FAM_BOOL", "OBJECT_ROWS", "Y_INTER", "FAM_STR", "FAM_NUM", "family", "FAM_NULL", "FAM_UNDEF", "FAM_VOID", "is_nullish_family", "index_kids", "object_kids", "KID_SPANS", "Y_OBJ", "Y_REF", "Y_ALIAS", "Y_TUPLE", "Y_SIG", "row_kids", "Y_COND", "Y_MAPPED", "row_binds", "inner_kids", "reached", "free_params", "has_params", "Y_INDEX", "may_be_nullish", "Y_KEYOF", "mapped_may_be_nullish", "meet_may_be_nullish", "MOST_PLAIN", "PLAIN_ROWS", "plain_shape", "tab", "deep", "MOST_ROUNDS", "most_rounds", "MOST_SHAPES", "most_deep", "lib", "force", "put_deferred", "host", "mode", "rules", "assumed", "known", "trail", "road", "looks", "notes", "telling", "twin", "missing", "ask", "note", "same", "mark", "holds", "by_rule", "silent_with", "R_IDENT", "twin_of", "cut_back", "settled", "VALUE_ROWS", "R_COMPARE", "ask_kinds", "MOST_LOOKS", "MAX_OPEN", "U_VAR", "R_SUBTYPE", "relbase_kept", "close_trail", "R_ASSIGN", "tells", "U_PROP", "taken_wider", "OPEN_ROWS", "OBJECTT", "NULLT", "VOID", "simple_related", "U_ANY", "tops_related", "structured", "RULE_MEET", "DEFERRED_ROWS", "RULE_DEFERRED", "RULE_SIG", "LIST_ROWS_relbase", "RULE_LIST", "RULE_OBJECT", "rule_for", "from_union", "back", "some_part", "SHAPED_ROWS", "RULE_CHOICE", "RULE_PLACES", "to_union", "same_kind", "own_param", "pid_bound", "shape", "shown_keys", "HIDDEN", "named_keys", "member_of", "is_empty_object", "U_OPTION", "to_mapped", "U_INDEX", "index_noted", "keeps_marks", "U_READONLY", "own_members", "P_READONLY", "has_readonly", "by_members", "mark_rank", "keys_lie", "keys_and_marks", "mapped_pair", "param_related", "install_rel_params", "_law_base", "_law_take", "a", "b", "_law_kind", "p", "q", "*", "#", "_law_object", "_law_row", "z", "_law_worlds", "T", "V", "I", "Q", "_law_source", "_law_tried", "_law_codes", "K", "J", "P", "W", "L", "_law_asked", "law", "self", "code", "row", "t", "text", "fresh", "bound", "default", "pid", "decl", "got", "parts", "part", "top", "kept", "gone", "found", "fam", "whole", "cell", "out", "sig", "low", "high", "seen", "waiting", "order", "free", "held", "now", "keys", "turn", "s", "rel", "rule", "made", "spot", "told", "key", "answer", "clean", "lax", "spared", "want", "member", "have", "template", "d", "n", "x", "mask", "table", "y", "way", "props", "cells", "closed", "more", "shut", "wide", "how", "some", "most", "pick", "up", "alone", "brand", "other", "over", "me", "world", "mapped", "worlds", "stay", "own", "opt", "ro", "extra", "late", "goes", "which", "form", "named", "texts", "k", "j", "far", "mine", "w", "apart", "lets", "due", "last", "go", "script", "loud", "lap", "TypeTable", "Decl", "BoundHost", "Rel", "Notes", "ParamRule"]
noncomputable def MN : JN := ⟨0, 1, 2, 3⟩
noncomputable def PR : QI := ⟨zN, IP, wH⟩
end
section
noncomputable section
noncomputable abbrev PQ := V -> ag -> Prop
noncomputable abbrev PL := List V -> ag -> Prop
noncomputable abbrev PS := lH -> List V -> ag -> Prop
noncomputable abbrev PF := Flow -> Env -> ag -> Prop
noncomputable abbrev Cl := Nat -> List V -> ag -> PQ -> Prop
def dd {α : Type} (o : Option α) (F : α -> Prop) : Prop := match o with
 | some x => F x
 | none => False
def pL (b : Bool) (A B : Prop) : Prop := @Bool.rec (fun _ => Prop) B A b
def oh : Env -> Nat -> (V -> Prop) -> Prop
 | [], _, _ => False
 | x :: _, 0, F => match x with
  | some v => F v
  | none => False
 | _ :: r, k + 1, F => oh r k F
inductive Hk {α : Type} (P : α -> Prop) (F : α -> Prop) : Prop
 | mk {x : α} (h : P x) (q : F x)
inductive QM {α β : Type} (P : α -> β -> Prop) (F : α -> β -> Prop) : Prop
 | mk {x : α} {y : β} (h : P x y) (q : F x y)
inductive QN (n a : Nat) (σ : ag) (F : V -> Prop) : Prop
 | mk {k : Nat} {fs : List (Nat × V)} (h : σ[n]? = some (.aF k fs)) (q : dd (fs.lookup a) F)
inductive Gg (n : Nat) (σ : ag) : V -> V -> Prop
 | list {l : List V} {i : Int} {v : V} (h : σ[n]? = some (.list l)) (e : vI l i = some v) : Gg n σ (.int i) v
 | dict {kd : KK} {kvs : List (V × V)} {y v : V} (h : σ[n]? = some (.dict kd kvs)) (hk : y.kind = some kd) (e : bJ kvs y = some v) : Gg n σ y v
 | bq {kvs : List (V × V)} {y v : V} (h : σ[n]? = some (.bq kvs)) (hk : y.kind = some .str) (e : bJ kvs y = some v) : Gg n σ y v
inductive Dn (n : Nat) (σ : ag) : Bool -> Prop
 | list {l : List V} (h : σ[n]? = some (.list l)) : Dn n σ (!l.isEmpty)
 | dict {kd : KK} {kvs : List (V × V)} (h : σ[n]? = some (.dict kd kvs)) (hk : kd ≠ .ae) : Dn n σ (!kvs.isEmpty)
inductive vD (n : Nat) (σ : ag) : Ak -> V -> Bool -> Prop
 | uc {m : Nat} {x y : List V} (ha : σ[m]? = some (.list x)) (hb : σ[n]? = some (.list y)) (nx : x.all (V.a5 4) = true) (ny : y.all (V.a5 4) = true) : vD n σ .eq (.ref m) (decide (x = y))
 | GZ {m : Nat} {kd Te : KK} (ha : σ[m]? = some (.dict kd [])) (hb : σ[n]? = some (.dict Te [])) : vD n σ .eq (.ref m) true
 | inl {x : V} {l : List V} (h : σ[n]? = some (.list l)) (hx : V.a5 5 x = true) (hl : l.all (V.a5 5) = true) : vD n σ .bt x (decide (x ∈ l))
 | Ro {x : V} {kd : KK} {kvs : List (V × V)} (h : σ[n]? = some (.dict kd kvs)) (hk : x.kind = some kd) : vD n σ .bt x (bJ kvs x).isSome
 | ne {x : V} {b : Bool} (h : vD n σ .eq x b) : vD n σ .ne x (!b)
 | d9 {x : V} {b : Bool} (h : vD n σ .bt x b) : vD n σ .d9 x (!b)
inductive Oi (n : Nat) (σ : ag) : vF -> V -> V -> ag -> Prop
 | uc {m : Nat} {x y : List V} (ha : σ[n]? = some (.list x)) (hb : σ[m]? = some (.list y)) (hl : x.length + y.length <= 1000000) : Oi n σ .add (.ref m) (.ref σ.length) (σ ++ [.list (x ++ y)])
inductive Gj (n : Nat) (σ : ag) : BF -> V -> ag -> Prop
 | Lo {l : List V} (h : σ[n]? = some (.list l)) : Gj n σ .len (.int l.length) σ
 | Lp {kd : KK} {kvs : List (V × V)} (h : σ[n]? = some (.dict kd kvs)) (hk : kd ≠ .ae) : Gj n σ .len (.int kvs.length) σ
 | Gp {l : List V} {xs : List Int} (h : σ[n]? = some (.list l)) (Fn : l.length < 64) (e : fW l = some xs) : Gj n σ .sorted (.ref σ.length) (σ ++ [.list ((xs.mergeSort (· <= ·)).map .int)])
 | Gq {kvs : List (V × V)} {xs : List Int} (h : σ[n]? = some (.dict .int kvs)) (Fn : kvs.length < 64) (e : fW (kvs.map (·.1)) = some xs) : Gj n σ .sorted (.ref σ.length) (σ ++ [.list ((xs.mergeSort (· <= ·)).map .int)])
 | tuple {l : List V} (h : σ[n]? = some (.list l)) : Gj n σ .tuple (.ae l) σ
 | all {l : List V} {bs : List Bool} (h : σ[n]? = some (.list l)) (e : dq l = some bs) : Gj n σ .all (.bool (bs.all id)) σ
 | any {l : List V} {bs : List Bool} (h : σ[n]? = some (.list l)) (e : dq l = some bs) : Gj n σ .any (.bool (bs.any id)) σ
 | dict {kvs : List (V × V)} (h : σ[n]? = some (.dict .str kvs)) : Gj n σ .dict (.ref σ.length) (σ ++ [.dict .str kvs])
def Sp (n : Nat) (y : V) (σ : ag) (F : V -> Prop) : Prop := Hk (Gg n σ y) F
def Sk (n : Nat) (σ : ag) (F : Bool -> Prop) : Prop := Hk (Dn n σ) F
def Sr (o : Ak) (x : V) (n : Nat) (σ : ag) (F : Bool -> Prop) : Prop := Hk (vD n σ o x) F
def Ss (o : vF) (n : Nat) (y : V) (σ : ag) (Q : PQ) : Prop := QM (Oi n σ o y) Q
def Gi (b : BF) (n : Nat) (σ : ag) (Q : PQ) : Prop := QM (Gj n σ b) Q
def Qw (v : V) (a : Nat) (σ : ag) (F : V -> Prop) : Prop := match v with
 | .ref n => QN n a σ F
 | _ => False
def Rl (x y : V) (σ : ag) (F : V -> Prop) : Prop := match x with
 | .ref n => Sp n y σ F
 | x => dd (yr x y) F
def s6 (v : V) (σ : ag) (F : Bool -> Prop) : Prop := match v with
 | .ref n => Sk n σ F
 | v => dd (nP v) F
def Sd (o : Ak) (x y : V) (σ : ag) (F : Bool -> Prop) : Prop := match y with
 | .ref n => Sr o x n σ F
 | y => dd (zX o x y) F
def v3 (Q : PQ) (σ : ag) : V -> Prop := fun v => Q v σ
noncomputable def OV (Q : PQ) : PQ := fun v σ => match v with
 | .int i => Q (.int (-i)) σ
 | _ => False
noncomputable def MY (o : vF) (x : V) (Q : PQ) : PQ := fun y σ => match x with
 | .ref n => Ss o n y σ Q
 | x => dd (z8 o x y) (v3 Q σ)
noncomputable def Qp (o : vF) (w : ag -> PQ -> Prop) (Q : PQ) : PQ := fun x σ => w σ (MY o x Q)
def OT (Q : PQ) (σ : ag) : Bool -> Prop := fun b => Q (.bool (!b)) σ
noncomputable def OS (Q : PQ) : PQ := fun v σ => s6 v σ (OT Q σ)
def MW (Q : PQ) (σ : ag) : Bool -> Prop := fun b => Q (.bool b) σ
noncomputable def Qm (o : Ak) (x : V) (Q : PQ) : PQ := fun y σ => Sd o x y σ (MW Q σ)
noncomputable def Qn (o : Ak) (w : ag -> PQ -> Prop) (Q : PQ) : PQ := fun x σ => w σ (Qm o x Q)
def IL (A B : ag -> PQ -> Prop) (Q : PQ) (σ : ag) : Bool -> Prop := fun b => pL b (A σ Q) (B σ Q)
noncomputable def O4 (A B : ag -> PQ -> Prop) (Q : PQ) : PQ := fun v σ => s6 v σ (IL A B Q σ)
def JG (w : Bool) (r : ag -> PQ -> Prop) (Q : PQ) (v : V) (σ : ag) : Bool -> Prop := fun b => match w with
 | true => pL b (r σ Q) (Q v σ)
 | false => pL b (Q v σ) (r σ Q)
noncomputable def Qz (w : Bool) (r : ag -> PQ -> Prop) (Q : PQ) : PQ := fun v σ => s6 v σ (JG w r Q v σ)
noncomputable def G3 (v : V) (Q : PL) : PL := fun vs σ => Q (v :: vs) σ
noncomputable def MS (w : ag -> PL -> Prop) (Q : PL) : PQ := fun v σ => w σ (G3 v Q)
noncomputable def Ot (Q : PQ) : PL := fun vs σ => Q (.ae vs) σ
noncomputable def Ln (Q : PQ) : PL := fun vs σ => Q (.ref σ.length) (σ ++ [.list vs])
noncomputable def M3 (a : Nat) (Q : PQ) : PQ := fun v σ => Qw v a σ (v3 Q σ)
noncomputable def OB (x : V) (Q : PQ) : PQ := fun y σ => Rl x y σ (v3 Q σ)
noncomputable def OC (w : ag -> PQ -> Prop) (Q : PQ) : PQ := fun x σ => w σ (OB x Q)
inductive Nc (up : Bool) (σ : ag) (Q : PQ) : V -> V -> Prop
 | yY {n : Nat} {l : List V} {k : Int} (e : up = true) (h : σ[n]? = some (.ic l)) (hk : 0 <= k) (q : Q (.ref σ.length) (σ ++ [.list (l.take k.toNat)])) : Nc up σ Q (.ref n) (.int k)
 | from {n : Nat} {l : List V} {k : Int} (e : up = false) (h : σ[n]? = some (.list l)) (hk : 0 <= k) (q : Q (.ref σ.length) (σ ++ [.list (l.drop k.toNat)])) : Nc up σ Q (.ref n) (.int k)
noncomputable def HM (up : Bool) (x : V) (Q : PQ) : PQ := fun y σ => Nc up σ Q x y
noncomputable def Bg (up : Bool) (w : ag -> PQ -> Prop) (Q : PQ) : PQ := fun x σ => w σ (HM up x Q)
noncomputable def Qj (v : V) (lo hi : Nat) : Option V := match v with
 | .ae l => if 1 <= lo /\ lo <= hi /\ hi <= l.length then some (.ae ((l.drop lo).take (hi - lo))) else none
 | _ => none
noncomputable def Qk (lo hi : Nat) (Q : PQ) : PQ := fun v σ => dd (Qj v lo hi) (v3 Q σ)
noncomputable def MV (c : Cl) (f : Nat) (Q : PQ) : PL := fun vs σ => c f vs σ Q
noncomputable def yj (n : Nat) (Q : PQ) : PQ := fun v σ => match v with
 | .none => Q (.ref n) σ
 | _ => False
noncomputable def RU (b : BF) (Q : PQ) : PQ := fun v σ => match v with
 | .ref n => Gi b n σ Q
 | v => dd (US b v) (v3 Q σ)
noncomputable def MA (kvs : List (Int × V)) (v : V) (Q : PQ) : PQ := fun y σ => match v with
 | .int i => Q ((kvs.lookup i).getD y) σ
 | _ => False
noncomputable def MB (kvs : List (Int × V)) (w : ag -> PQ -> Prop) (Q : PQ) : PQ := fun v σ => w σ (MA kvs v Q)
noncomputable def P6 (kvs : List (Int × V)) (Q : PQ) : PQ := fun v σ => match v with
 | .int i => Q (.bool (kvs.lookup i).isSome) σ
 | _ => False
noncomputable def HY (Q : PS) : PQ := fun v σ => match v with
 | .int i => (-1000 <= i /\ i <= 1000) /\ Q .pH (fB i) σ
 | _ => False
inductive N7 (n : Nat) (σ : ag) (Q : PS) : Prop
 | list {l : List V} (h : σ[n]? = some (.list l)) (q : Q (.seq (.ref n)) l σ)
 | dict {kvs : List (V × V)} (h : σ[n]? = some (.dict .str kvs)) (q : Q (.j6 n kvs) (kvs.map (·.1)) (σ.set n (.bq kvs)))
noncomputable def tD (Q : PS) : PQ := fun v σ => match v with
 | .ref n => N7 n σ Q
 | .ae l => Q (.seq (.ae l)) l σ
 | _ => False
def G4 (r : ag -> (Bool -> ag -> Prop) -> Prop) (Q : Bool -> ag -> Prop) (σ : ag) : Bool -> Prop := fun b => pL b (r σ Q) (Q false σ)
noncomputable def MT (r : ag -> (Bool -> ag -> Prop) -> Prop) (Q : Bool -> ag -> Prop) : PQ := fun v σ => s6 v σ (G4 r Q σ)
inductive Sj (n : Nat) (kvs : List (V × V)) (σ : ag) (F : ag -> Prop) : Prop
 | mk (h : σ[n]? = some (.bq kvs)) (q : F (σ.set n (.dict .str kvs)))
def y8 (s : lH) (σ : ag) (F : ag -> Prop) : Prop := match s with
 | .j6 n kvs => Sj n kvs σ F
 | _ => F σ
inductive c6 (ws : PS -> Prop) (wc : V -> ag -> (Bool -> ag -> Prop) -> Prop) (we : V -> ag -> PQ -> Prop) (Q : PQ) : Prop
 | mk (J : lH -> List V -> List V -> List V -> ag -> Prop) (iM : ws fun s l σ => J s l l [] σ)
  (hs : ∀ s l x xs acc σ, J s l (x :: xs) acc σ -> wc x σ fun t ab => pL t (we x ab fun v ah => d8 s l ah /\ J s l xs (acc ++ [v]) ah) (d8 s l ab /\ J s l xs acc ab))
  (he : ∀ s l acc σ, J s l [] acc σ -> acc.length <= 1000000 /\ y8 s σ fun σ' => Q (.ref σ'.length) (σ' ++ [.list acc]))
section
variable (c : Cl)
noncomputable def BL (k : Nat) (Q : PQ) : PL := fun vs σ => match PR.cn k with
 | some none => (match vs with
  | [] => Q (.ref σ.length) (σ ++ [.aF k []])
  | _ => False)
 | some (some f) => c f (.ref σ.length :: vs) (σ ++ [.aF k []]) (yj σ.length Q)
 | none => False
set_option genCtorIdx false in
inductive j5 where
 | fn (f : Nat) | yk | j6
inductive Ar (σ : ag) (Q : PQ) : V -> Nat -> List V -> Prop
 | append {n : Nat} {l : List V} {x : V} (h : σ[n]? = some (.list l)) (hl : l.length < 1000000) (q : Q .none (σ.set n (.list (l ++ [x])))) : Ar σ Q (.ref n) MN.append [x]
 | H6 {n : Nat} {l : List V} {x : V} (h : σ[n]? = some (.list l)) (e : l.getLast? = some x) (q : Q x (σ.set n (.list l.dropLast))) : Ar σ Q (.ref n) MN.H6 []
 | iV {n m : Nat} {l r : List V} (h : σ[n]? = some (.list l)) (hr : σ[m]? = some (.list r)) (hn : m ≠ n) (hl : l.length + r.length <= 1000000) (q : Q .none (σ.set n (.list (l ++ r)))) : Ar σ Q (.ref n) MN.iV [.ref m]
inductive Og (σ : ag) (Q : PQ) : V -> Nat -> List V -> Prop
 | get {n : Nat} {kd : KK} {kvs : List (V × V)} {k : V} (h : σ[n]? = some (.dict kd kvs)) (hk : k.kind = some kd) (q : Q ((bJ kvs k).getD .none) σ) : Og σ Q (.ref n) MN.get [k]
noncomputable def IA (k : j5) (o : V) (m : Nat) (Q : PQ) : PL := fun args σ => match k with
 | .fn f => c f (o :: args) σ Q
 | .yk => Ar σ Q o m args
 | .j6 => Og σ Q o m args
inductive Nj (n m : Nat) (σ : ag) (F : j5 -> Prop) : Prop
 | aF {c : Nat} {fs : List (Nat × V)} (h : σ[n]? = some (.aF c fs)) (hl : fs.lookup m = none) (q : dd (PR.aM c m) fun f => F (.fn f))
 | list {l : List V} (h : σ[n]? = some (.list l)) (hm : Nat.ble m 2 = true) (q : F .yk)
 | dict {kd : KK} {kvs : List (V × V)} (h : σ[n]? = some (.dict kd kvs)) (hm : m = MN.get) (q : F .j6)
def U8 (o : V) (m : Nat) (σ : ag) (F : j5 -> Prop) : Prop := match o with
 | .ref n => Nj n m σ F
 | _ => False
def Lh (o : V) (m : Nat) (w : PL -> Prop) (Q : PQ) : j5 -> Prop := fun k => w (IA c k o m Q)
noncomputable def Lg (m : Nat) (w : ag -> PL -> Prop) (Q : PQ) : PQ := fun o σ => U8 o m σ (Lh c o m (w σ) Q)
mutual
def wE : E -> Env -> ag -> PQ -> Prop
 | .lit v, _, σ, Q => Q v σ
 | .aa k, ρ, σ, Q => oh ρ k (v3 Q σ)
 | .aq _ v, _, σ, Q => Q v σ
 | .neg a, ρ, σ, Q => wE a ρ σ (OV Q)
 | .fQ o a b, ρ, σ, Q => wE a ρ σ (Qp o (wE b ρ) Q)
 | .not a, ρ, σ, Q => wE a ρ σ (OS Q)
 | .aB o a b, ρ, σ, Q => wE a ρ σ (Qn o (wE b ρ) Q)
 | .and es, ρ, σ, Q => wA true es ρ σ Q
 | .or es, ρ, σ, Q => wA false es ρ σ Q
 | .ite g a b, ρ, σ, Q => wE g ρ σ (O4 (wE a ρ) (wE b ρ) Q)
 | .ae es, ρ, σ, Q => wL es ρ σ (Ot Q)
 | .list es, ρ, σ, Q => wL es ρ σ (Ln Q)
 | .dict kd kvs, _, σ, Q => Q (.ref σ.length) (σ ++ [.dict kd kvs])
 | .ar e a, ρ, σ, Q => wE e ρ σ (M3 a Q)
 | .sub a b, ρ, σ, Q => wE a ρ σ (OC (wE b ρ) Q)
 | .yY a b, ρ, σ, Q => wE a ρ σ (Bg true (wE b ρ) Q)
 | .from a b, ρ, σ, Q => wE a ρ σ (Bg false (wE b ρ) Q)
 | .Ql a lo hi, ρ, σ, Q => wE a ρ σ (Qk lo hi Q)
 | .call f es, ρ, σ, Q => wL es ρ σ (MV c f Q)
 | .new k es, ρ, σ, Q => wL es ρ σ (BL c k Q)
 | .aM e m es, ρ, σ, Q => wE e ρ σ (Lg c m (wL es ρ) Q)
 | .fn b e, ρ, σ, Q => wE e ρ σ (RU b Q)
 | .range _, _, _, _ => False
 | .Jn _ kvs e d, ρ, σ, Q => wE e ρ σ (MB kvs (wE d ρ) Q)
 | .NP _ kvs e, ρ, σ, Q => wE e ρ σ (P6 kvs Q)
 | .comp na k bO il, ρ, σ, Q => c6 (fun R => match bO with | .range _ => wR bO ρ σ (HY R) | _ => wE bO ρ σ (tD R)) (fun x => wC il (ρ.set k (some x))) (fun x => wE na (ρ.set k (some x))) Q
 | .bS, _, _, _ => False
def wR : E -> Env -> ag -> PQ -> Prop
 | .range e, ρ, σ, Q => wE e ρ σ Q
 | _, _, _, _ => False
def wL : EL -> Env -> ag -> PL -> Prop
 | .nil, _, σ, Q => Q [] σ
 | .cons e es, ρ, σ, Q => wE e ρ σ (MS (wL es ρ) Q)
def wA (w : Bool) : EL -> Env -> ag -> PQ -> Prop
 | .nil, _, _, _ => False
 | .cons e .nil, ρ, σ, Q => wE e ρ σ Q
 | .cons e (.cons e' es), ρ, σ, Q => wE e ρ σ (Qz w (wA w (.cons e' es) ρ) Q)
def wC : EL -> Env -> ag -> (Bool -> ag -> Prop) -> Prop
 | .nil, _, σ, Q => Q true σ
 | .cons e es, ρ, σ, Q => wE e ρ σ (MT (wC es ρ) Q)
end
def wS (e : E) (ρ : Env) (σ : ag) (R : PS) : Prop := match e with
 | .range e => wE c e ρ σ (HY R)
 | e => wE c e ρ σ (tD R)
noncomputable def OE (w : Env -> ag -> PF -> Prop) (Φ : PF) : PF := fun f ρ σ => match f with
 | .next => w ρ σ Φ
 | f => Φ f ρ σ
noncomputable def Qy (k : Nat) (ρ : Env) (Φ : PF) : PQ := fun v σ => Φ .next (ρ.set k (some v)) σ
inductive Hi (n a : Nat) (v : V) (σ : ag) : ag -> Prop
 | mk {c : Nat} {fs : List (Nat × V)} (h : σ[n]? = some (.aF c fs)) (hl : fs.length < 100) : Hi n a v σ (σ.set n (.aF c (oJ fs a v)))
inductive Gd (n : Nat) (v : V) (σ : ag) : V -> ag -> Prop
 | list {l : List V} {k : Int} (h : σ[n]? = some (.list l)) (hk : 0 <= k /\ k < l.length) : Gd n v σ (.int k) (σ.set n (.list (l.set k.toNat v)))
 | dict {y : V} {kd : KK} {kvs : List (V × V)} (h : σ[n]? = some (.dict kd kvs)) (hk : y.kind = some kd) (hl : kvs.length < 1000000) : Gd n v σ y (σ.set n (.dict kd (cP kvs y v)))
inductive Ni (n : Nat) (y : V) (σ : ag) : ag -> Prop
 | mk {kvs : List (V × V)} (h : σ[n]? = some (.dict .ae kvs)) (hk : y.kind = some .ae) (hs : (bJ kvs y).isSome = true) : Ni n y σ (σ.set n (.dict .ae (sP kvs y)))
def JL (n a : Nat) (v : V) (σ : ag) (F : ag -> Prop) : Prop := Hk (Hi n a v σ) F
def N8 (n : Nat) (y v : V) (σ : ag) (F : ag -> Prop) : Prop := Hk (Gd n v σ y) F
def Sq (n : Nat) (y : V) (σ : ag) (F : ag -> Prop) : Prop := Hk (Ni n y σ) F
def OG (x : V) (a : Nat) (v : V) (σ : ag) (F : ag -> Prop) : Prop := match x with
 | .ref n => JL n a v σ F
 | _ => False
def Q3 (x y v : V) (σ : ag) (F : ag -> Prop) : Prop := match x with
 | .ref n => N8 n y v σ F
 | _ => False
def R9 (x y : V) (σ : ag) (F : ag -> Prop) : Prop := match x with
 | .ref n => Sq n y σ F
 | _ => False
def Oq (Φ : PF) (σ : ag) : Env -> Prop := fun ρ => Φ .next ρ σ
noncomputable def Oo (ks : List Nat) (ρ : Env) (Φ : PF) : PQ := fun v σ => match v with
 | .ae l => dd (rF ks l ρ) (Oq Φ σ)
 | _ => False
def Kl (ρ : Env) (Φ : PF) : ag -> Prop := fun σ => Φ .next ρ σ
noncomputable def KD (a : Nat) (v : V) (ρ : Env) (Φ : PF) : PQ := fun x σ => OG x a v σ (Kl ρ Φ)
noncomputable def KC (a : Nat) (w : ag -> PQ -> Prop) (ρ : Env) (Φ : PF) : PQ := fun v σ => w σ (KD a v ρ Φ)
noncomputable def Kz (v x : V) (ρ : Env) (Φ : PF) : PQ := fun y σ => Q3 x y v σ (Kl ρ Φ)
noncomputable def KA (v : V) (wi : ag -> PQ -> Prop) (ρ : Env) (Φ : PF) : PQ := fun x σ => wi σ (Kz v x ρ Φ)
noncomputable def KB (wo wi : ag -> PQ -> Prop) (ρ : Env) (Φ : PF) : PQ := fun v σ => wo σ (KA v wi ρ Φ)
noncomputable def Qv (x : V) (a : Nat) (ρ : Env) (Φ : PF) : PQ := fun v σ => OG x a v σ (Kl ρ Φ)
noncomputable def Qs (x : V) (a : Nat) (op : vF) (i : V) (ρ : Env) (Φ : PF) : PQ := fun y σ => dd (z8 op i y) (v3 (Qv x a ρ Φ) σ)
def Qt (x : V) (a : Nat) (op : vF) (w : ag -> PQ -> Prop) (ρ : Env) (Φ : PF) (σ : ag) : V -> Prop := fun i => match i with
 | .int i => w σ (Qs x a op (.int i) ρ Φ)
 | _ => False
noncomputable def Qu (a : Nat) (op : vF) (w : ag -> PQ -> Prop) (ρ : Env) (Φ : PF) : PQ := fun x σ => Qw x a σ (Qt x a op w ρ Φ σ)
noncomputable def MJ (ρ : Env) (Φ : PF) : PQ := fun v σ => match v with
 | .ae _ => False
 | .ref _ => False
 | _ => Φ .next ρ σ
noncomputable def SM (ρ : Env) (Φ : PF) : PQ := fun v σ => Φ (.ret v) ρ σ
def Rp (A B : Env -> ag -> PF -> Prop) (ρ : Env) (Φ : PF) (σ : ag) : Bool -> Prop := fun b => pL b (A ρ σ Φ) (B ρ σ Φ)
noncomputable def IU (A B : Env -> ag -> PF -> Prop) (ρ : Env) (Φ : PF) : PQ := fun v σ => s6 v σ (Rp A B ρ Φ σ)
noncomputable def U2 (x : V) (ρ : Env) (Φ : PF) : PQ := fun y σ => R9 x y σ (Kl ρ Φ)
noncomputable def U3 (w : ag -> PQ -> Prop) (ρ : Env) (Φ : PF) : PQ := fun x σ => w σ (U2 x ρ Φ)
inductive Oh (σ : ag) (F : ag -> Prop) : V -> V -> Prop
 | mk {n : Nat} {l : List V} {k : Int} (h : σ[n]? = some (.list l)) (hk : 0 <= k) (q : F (σ.set n (.list (l.take k.toNat)))) : Oh σ F (.ref n) (.int k)
noncomputable def U4 (x : V) (ρ : Env) (Φ : PF) : PQ := fun y σ => Oh σ (Kl ρ Φ) x y
noncomputable def U5 (w : ag -> PQ -> Prop) (ρ : Env) (Φ : PF) : PQ := fun x σ => w σ (U4 x ρ Φ)
noncomputable def xQ (s : lH) (l : List V) (I : Env -> ag -> Prop) (Φ : PF) : PF := fun f ρ σ => match f with
 | .ret v => y8 s σ fun ah => Φ (.ret v) ρ ah
 | _ => d8 s l σ /\ I ρ σ
noncomputable def QU (I : Env -> ag -> Prop) (Φ : PF) : PF := fun f ρ σ => match f with
 | .ret v => Φ (.ret v) ρ σ
 | _ => I ρ σ
def tq (k : Nat) (wb : Env -> ag -> PF -> Prop) (Φ : PF) : List V -> Env -> ag -> Prop
 | [], ρ, σ => Φ .next ρ σ
 | x :: xs, ρ, σ => wb (ρ.set k (some x)) σ (QU (tq k wb Φ xs) Φ)
def Bd : lH -> Prop -> Prop
 | .pH, p => p
 | .seq (.ae _), p => p
 | _, _ => False
inductive cT (k : Nat) (ws : PS -> Prop) (wb : Env -> ag -> PF -> Prop) (ρ : Env) (Φ : PF) : Prop
 | mk (I : lH -> List V -> List V -> Env -> ag -> Prop) (iM : ws fun s l σ => I s l l ρ σ)
  (hs : ∀ s l x xs ρ σ, I s l (x :: xs) ρ σ -> wb (ρ.set k (some x)) σ (xQ s l (I s l xs) Φ))
  (he : ∀ s l ρ σ, I s l [] ρ σ -> y8 s σ fun ah => Φ .next ρ ah)
 | ae (h : ws fun s l σ => Bd s (tq k wb Φ l ρ σ))
def Ol (n : Nat) (I : Nat -> Env -> ag -> Prop) (wb : Env -> ag -> PF -> Prop) (ρ : Env) (Φ : PF) (σ : ag) : Bool -> Prop := fun b => pL b (∃ m, m < n /\ wb ρ σ (QU (I m) Φ)) (Φ .next ρ σ)
inductive lY (wg : Env -> ag -> PQ -> Prop) (wb : Env -> ag -> PF -> Prop) (ρ : Env) (σ : ag) (Φ : PF) : Prop
 | mk (I : Nat -> Env -> ag -> Prop) (n : Nat) (hn : n < 1000) (h0 : I n ρ σ)
  (hs : ∀ n ρ σ, I n ρ σ -> wg ρ σ fun v ab => s6 v ab (Ol n I wb ρ Φ ab))
mutual
def QV : S -> Env -> ag -> PF -> Prop
 | .assign k e, ρ, σ, Φ => wE c e ρ σ (Qy k ρ Φ)
 | .iB ks e, ρ, σ, Φ => wE c e ρ σ (Oo ks ρ Φ)
 | .setAttr o a e, ρ, σ, Φ => wE c e ρ σ (KC a (wE c o ρ) ρ Φ)
 | .setItem o i e, ρ, σ, Φ => wE c e ρ σ (KB (wE c o ρ) (wE c i ρ) ρ Φ)
 | .lB o a op e, ρ, σ, Φ => wE c o ρ σ (Qu a op (wE c e ρ) ρ Φ)
 | .expr e, ρ, σ, Φ => wE c e ρ σ (MJ ρ Φ)
 | .ret e, ρ, σ, Φ => wE c e ρ σ (SM ρ Φ)
 | .nq, ρ, σ, Φ => Φ (.ret .none) ρ σ
 | .ite g t f, ρ, σ, Φ => wE c g ρ σ (IU (wX t) (wX f) ρ Φ)
 | .dK k bO b, ρ, σ, Φ => cT k (wS c bO ρ σ) (wX b) ρ Φ
 | .while g b, ρ, σ, Φ => lY (wE c g) (wX b) ρ σ Φ
 | .delItem o i, ρ, σ, Φ => wE c o ρ σ (U3 (wE c i ρ) ρ Φ)
 | .sO o i, ρ, σ, Φ => wE c o ρ σ (U5 (wE c i ρ) ρ Φ)
 | .cont, ρ, σ, Φ => Φ .cont ρ σ
 | .bS, _, _, _ => False
def wX : SL -> Env -> ag -> PF -> Prop
 | .nil, ρ, σ, Φ => Φ .next ρ σ
 | .cons s r, ρ, σ, Φ => QV s ρ σ (OE (wX r) Φ)
end
end
noncomputable def a6 (Q : PQ) : PF := fun f _ σ => match f with
 | .ret v => Q v σ
 | .next => Q .none σ
 | .cont => False
structure At (c : Cl) (f : Nat) (args : List V) (σ : ag) (Q : PQ) : Prop where
 out : c f args σ Q
def OI (c : Cl) (f : Nat) (args : List V) (σ : ag) (Q : PQ) : Prop := match PR.zN[f]? with
 | none => False
 | some fd =>
  let vs := args ++ fd.bk.drop (fd.bk.length - (fd.cX - args.length))
  vs.length = fd.cX /\ wX (At c) fd.body (vs.map some ++ List.replicate (fd.n4 - fd.cX) none) σ (a6 Q)
noncomputable def Nn : Nat -> Cl
 | 0 => fun _ _ _ _ => False
 | d + 1 => OI (Nn d)
end
end
section
noncomputable abbrev cl (d : Nat) : Cl := At (Nn d)
noncomputable abbrev WX (c : Cl) (b : SL) (ρ : Env) (σ : ag) (Φ : PF) : Prop := wX c b ρ σ Φ
noncomputable abbrev WE (c : Cl) (ρ : Env) (e : E) (σ : ag) (Q : PQ) : Prop := wE c e ρ σ Q
section
variable {σ : ag} {Q : PQ} {F : V -> Prop}
theorem ir {α : Type} {o : Option α} {x : α} {F : α -> Prop} (h : o = some x) (q : F x) : dd o F := by rw [h]; exact q
theorem Q9 {α : Type} {o p : Option α} {F : α -> Prop} (h : o = p) (q : dd p F) : dd o F := h ▸ q
theorem S6 {α β : Type} {o : Option α} {a : α} {f : α -> β} (h : o = some a) : o.map f = some (f a) := by rw [h]; rfl
theorem aG {n : Nat} {y v : V} (h : Gg n σ y v) (q : F v) : Sp n y σ F := .mk h q
theorem Gn {n : Nat} {b : Bool} {F : Bool -> Prop} (h : Dn n σ b) (q : F b) : Sk n σ F := .mk h q
theorem dD {o : Ak} {x : V} {n : Nat} {b : Bool} {F : Bool -> Prop} (h : vD n σ o x b) (q : F b) : Sr o x n σ F := .mk h q
theorem vk {o : vF} {n : Nat} {y v : V} {σ' : ag} (h : Oi n σ o y v σ') (q : Q v σ') : Ss o n y σ Q := .mk h q
theorem jt {n a : Nat} {v : V} {σ' : ag} {F : ag -> Prop} (h : Hi n a v σ σ') (q : F σ') : JL n a v σ F := .mk h q
theorem dI {n : Nat} {y v : V} {σ' : ag} {F : ag -> Prop} (h : Gd n v σ y σ') (q : F σ') : N8 n y v σ F := .mk h q
theorem G1 {n : Nat} {y : V} {σ' : ag} {F : ag -> Prop} (h : Ni n y σ σ') (q : F σ') : Sq n y σ F := .mk h q
theorem fM {n k a : Nat} {fs : List (Nat × V)} (h : σ[n]? = some (.aF k fs)) (q : dd (fs.lookup a) F) : QN n a σ F := .mk h q
theorem eF {n m : Nat} {l : List V} {F : j5 -> Prop} (h : σ[n]? = some (.list l)) (hm : Nat.ble m 2 = true) (q : F .yk) : Nj n m σ F := .list h hm q
theorem qZ {n m k : Nat} {fs : List (Nat × V)} {F : j5 -> Prop} (h : σ[n]? = some (.aF k fs)) (hl : fs.lookup m = none) (q : dd (PR.aM k m) fun f => F (.fn f)) : Nj n m σ F := .aF h hl q
theorem jV {b : Bool} {A B : Prop} (h1 : b = true -> A) (h2 : b = false -> B) : @Bool.rec (fun _ => Prop) B A b := by
 cases b
 ·exact h2 rfl
 ·exact h1 rfl
theorem aj {P A B : Prop} [Decidable P] (h1 : P -> A) (h2 : ¬P -> B) : @Bool.rec (fun _ => Prop) B A (decide P) := jV (fun e => h1 (of_decide_eq_true e)) (fun e => h2 (of_decide_eq_false e))
theorem bF {P A B : Prop} [Decidable P] (h1 : ¬P -> A) (h2 : P -> B) : @Bool.rec (fun _ => Prop) B A (!decide P) := jV (fun e => h1 (of_decide_eq_false (Bool.not_eq_true' _ ▸ e))) (fun e => h2 (of_decide_eq_true (Bool.not_eq_false' _ ▸ e)))
theorem iI {b : Bool} {A B : Prop} (h : b = true) (k : A) : @Bool.rec (fun _ => Prop) B A b := by rw [h]; exact k
theorem cY {b : Bool} {A B : Prop} (h : b = false) (k : B) : @Bool.rec (fun _ => Prop) B A b := by rw [h]; exact k
theorem JB {P : Prop} [Decidable P] (Q : PQ) (h : P) (q : Q (.bool true) σ) : Q (.bool (decide P)) σ := by rw [decide_eq_true h]; exact q
theorem xC {P : Prop} [Decidable P] (Q : PQ) (h : ¬P) (q : Q (.bool false) σ) : Q (.bool (decide P)) σ := by rw [decide_eq_false h]; exact q
theorem FE {P : Prop} [Decidable P] (Q : PQ) (h : P) (q : Q (.bool false) σ) : Q (.bool (!decide P)) σ := by rw [decide_eq_true h]; exact q
theorem N3 {P : Prop} [Decidable P] (Q : PQ) (h : ¬P) (q : Q (.bool true) σ) : Q (.bool (!decide P)) σ := by rw [decide_eq_false h]; exact q
theorem av {d f : Nat} {args vs : List V} {fd : aL} (hf : PR.zN[f]? = some fd) (hv : args ++ fd.bk.drop (fd.bk.length - (fd.cX - args.length)) = vs) (hn : vs.length = fd.cX)
  (h : WX (cl d) fd.body (vs.map some ++ List.replicate (fd.n4 - fd.cX) none) σ (a6 Q)) : cl (d + 1) f args σ Q := by
 refine ⟨?_⟩
 show (match PR.zN[f]? with | none => False | some fd => _)
 rw [hf]
 show (let vs := args ++ fd.bk.drop (fd.bk.length - (fd.cX - args.length)); vs.length = fd.cX /\ wX (At (Nn d)) fd.body (vs.map some ++ List.replicate (fd.n4 - fd.cX) none) σ (a6 Q))
 rw [hv]
 exact ⟨hn, h⟩
theorem MR {n k : Nat} {l : List V} {F : ag -> Prop} (h : σ[n]? = some (.list l)) (q : F (σ.set n (.list (l.take k)))) : Oh σ F (.ref n) (.int (k : Int)) := .mk h (Int.natCast_nonneg k) q
theorem Kx {n k : Nat} {l : List V} (h : σ[n]? = some (.list l)) (q : Q (.ref σ.length) (σ ++ [.list (l.drop k)])) : Nc false σ Q (.ref n) (.int (k : Int)) := .from rfl h (Int.natCast_nonneg k) q
theorem cD {n : Nat} {l : List V} {i : Int} {v : V} (h : σ[n]? = some (.list l)) (hl : vI l i = some v) : Gg n σ (.int i) v := .list h hl
theorem sH {n : Nat} {kd : KK} {kvs : List (V × V)} {k v : V} (h : σ[n]? = some (.dict kd kvs)) (hk : k.kind = some kd) (hl : bJ kvs k = some v) : Gg n σ k v := .dict h hk hl
theorem fh {l : List V} {n : Nat} {v : V} (h : l[n]? = some v) : vI l (n : Int) = some v := by
 unfold vI; rw [if_pos (Int.natCast_nonneg n)]; exact h
theorem cK {n : Nat} {kd : KK} {kvs : List (V × V)} {k : V} (h : σ[n]? = some (.dict kd kvs)) (hk : k.kind = some kd) : vD n σ .bt k (bJ kvs k).isSome := .Ro h hk
theorem cg {n : Nat} {kd : KK} {kvs : List (V × V)} {k v : V} (h : σ[n]? = some (.dict kd kvs)) (hk : k.kind = some kd) (hl : kvs.length < 1000000) : Gd n v σ k (σ.set n (.dict kd (cP kvs k v))) := .dict h hk hl
theorem b3 {n : Nat} {l : List V} (h : σ[n]? = some (.list l)) (q : Q (.int l.length) σ) : Gi .len n σ Q := .mk (.Lo h) q
theorem cw {n : Nat} {l : List V} {x : V} (h : σ[n]? = some (.list l)) (hl : l.length < 1000000) (q : Q .none (σ.set n (.list (l ++ [x])))) : Ar σ Q (.ref n) 0 [x] := .append h hl q
theorem aE {n : Nat} {o p : aN} (h : σ[n]? = some p) : (σ.set n o)[n]? = some o := by
 rw [List.getElem?_set_self]; exact (dX h)
theorem au {n m : Nat} {o : aN} (h : n ≠ m) : (σ.set n o)[m]? = σ[m]? := List.getElem?_set_ne h
theorem aH {n : Nat} {o p : aN} (h : σ[n]? = some o) : (σ ++ [p])[n]? = some o := by
 rw [List.getElem?_append_left (dX h)]; exact h
theorem ay {p : aN} : (σ ++ [p])[σ.length]? = some p := by
 rw [List.getElem?_append_right (Nat.le_refl _), Nat.sub_self]; rfl
end
structure E8 where
 (a b c d e f g h : Option V)
noncomputable abbrev E8.o : E8 := ⟨none, none, none, none, none, none, none, none⟩
noncomputable abbrev E8.p (a : Option V) : E8 := ⟨a, none, none, none, none, none, none, none⟩
noncomputable abbrev E8.p2 (a b : Option V) : E8 := ⟨a, b, none, none, none, none, none, none⟩
noncomputable abbrev E8.p3 (a b c : Option V) : E8 := ⟨a, b, c, none, none, none, none, none⟩
noncomputable abbrev E8.p4 (a b c d : Option V) : E8 := ⟨a, b, c, d, none, none, none, none⟩
inductive Go {ι : Type} (E : ι -> Env) (J : ι -> ag -> Prop) : Env -> ag -> Prop
 | mk (i : ι) {σ : ag} (h : J i σ) : Go E J (E i) σ
inductive Ah {α ι : Type} (f : α -> V) (S : lH) (L : List V) (all : List α) (E : ι -> Env) (J : List α -> List α -> ι -> ag -> Prop) : lH -> List V -> List V -> Env -> ag -> Prop
 | mk (dn td : List α) {ρ : Env} {σ : ag} {xs : List V} (e : dn ++ td = all) (ex : xs = td.map f) (h : Go E (J dn td) ρ σ) : Ah f S L all E J S L xs ρ σ
section
variable {α ι : Type} {k : Nat} {ws : PS -> Prop} {wb : Env -> ag -> PF -> Prop} {ρ : Env} {Φ : PF} {f : α -> V} {S : lH} {L : List V} {all dn td : List α} {E : ι -> Env} {J : List α -> List α -> ι -> ag -> Prop}
theorem Ah.cn (hL : L = all.map f) (i : ι) (h : J [] all i σ) : Ah f S L all E J S L L (E i) σ := .mk [] all rfl hL (.mk i h)
theorem Ah.next {x : α} (e : dn ++ x :: td = all) (i : ι) (h : J (dn ++ [x]) td i σ) : Ah f S L all E J S L (td.map f) (E i) σ :=
 .mk (dn ++ [x]) td (by rw [List.append_assoc]; exact e) rfl (.mk i h)
theorem cT.cv (f : α -> V) (S : lH) (L : List V) (all : List α) (E : ι -> Env) (J : List α -> List α -> ι -> ag -> Prop)
  (h0 : ws fun s l σ => Ah f S L all E J s l l ρ σ)
  (hs : ∀ dn x td i σ, dn ++ x :: td = all -> J dn (x :: td) i σ -> wb ((E i).set k (some (f x))) σ (xQ S L (Ah f S L all E J S L (td.map f)) Φ))
  (he : ∀ i σ, J all [] i σ -> y8 S σ fun ah => Φ .next (E i) ah) : cT k ws wb ρ Φ := by
 refine cT.mk (Ah f S L all E J) h0 (fun _ _ x xs _ _ h => h.rec (motive := fun s l Hl ρ σ _ => Hl = x :: xs -> wb (ρ.set k (some x)) σ (xQ s l (Ah f S L all E J s l xs) Φ)) (fun dn td {_ _ _} e ex g q => ?_) rfl)
  fun _ _ _ _ h => h.rec (motive := fun s _ Hl ρ σ _ => Hl = [] -> y8 s σ fun ah => Φ .next ρ ah) (fun dn td {_ _ _} e ex g q => ?_) rfl
 ·cases td with
  | nil => cases ex.symm.trans q
  | cons y td => cases q.symm.trans ex; exact g.rec fun i {σ} h => hs dn y td i σ e h
 ·cases td with
  | cons => cases q.symm.trans ex
  | nil => cases (List.append_nil _).symm.trans e; exact g.rec fun i {σ} h => he i σ h
end
inductive jq {α : Type} (f : α -> V) (S : lH) (L : List V) (all : List α) (J : List α -> List α -> List V -> ag -> Prop) : lH -> List V -> List V -> List V -> ag -> Prop
 | mk (dn td : List α) {σ : ag} {xs acc : List V} (e : dn ++ td = all) (ex : xs = td.map f) (h : J dn td acc σ) : jq f S L all J S L xs acc σ
section
variable {α ι : Type} {ws : PS -> Prop} {wc : V -> ag -> (Bool -> ag -> Prop) -> Prop} {we : V -> ag -> PQ -> Prop} {Q : PQ} {f : α -> V} {S : lH} {L acc : List V} {all dn td : List α} {J : List α -> List α -> List V -> ag -> Prop} {σ : ag}
theorem jq.cn (hL : L = all.map f) (h : J [] all [] σ) : jq f S L all J S L L [] σ := .mk [] all rfl hL h
theorem jq.next {x : α} (e : dn ++ x :: td = all) (h : J (dn ++ [x]) td acc σ) : jq f S L all J S L (td.map f) acc σ :=
 .mk (dn ++ [x]) td (by rw [List.append_assoc]; exact e) rfl h
theorem c6.u0 (f : α -> V) (S : lH) (L : List V) (all : List α) (J : List α -> List α -> List V -> ag -> Prop)
  (h0 : ws fun s l σ => jq f S L all J s l l [] σ)
  (hs : ∀ dn x td acc σ, dn ++ x :: td = all -> J dn (x :: td) acc σ -> wc (f x) σ fun t ab => pL t (we (f x) ab fun v ah => d8 S L ah /\ jq f S L all J S L (td.map f) (acc ++ [v]) ah) (d8 S L ab /\ jq f S L all J S L (td.map f) acc ab))
  (he : ∀ acc σ, J all [] acc σ -> acc.length <= 1000000 /\ y8 S σ fun σ' => Q (.ref σ'.length) (σ' ++ [.list acc])) : c6 ws wc we Q := by
 refine c6.mk (jq f S L all J) h0 (fun _ _ x xs acc _ h => h.rec (motive := fun s l Hl acc σ _ => Hl = x :: xs -> wc x σ fun t ab => pL t (we x ab fun v ah => d8 s l ah /\ jq f S L all J s l xs (acc ++ [v]) ah) (d8 s l ab /\ jq f S L all J s l xs acc ab)) (fun dn td {σ _ acc} e ex j q => ?_) rfl)
  fun _ _ _ _ h => h.rec (motive := fun s _ Hl acc σ _ => Hl = [] -> acc.length <= 1000000 /\ y8 s σ fun σ' => Q (.ref σ'.length) (σ' ++ [.list acc])) (fun dn td {σ _ acc} e ex j q => ?_) rfl
 ·cases td with
  | nil => cases ex.symm.trans q
  | cons y td => cases q.symm.trans ex; exact hs dn y td _ _ e j
 ·cases td with
  | cons => cases q.symm.trans ex
  | nil => cases (List.append_nil _).symm.trans e; exact he _ _ j
theorem lY.st {wg : Env -> ag -> PQ -> Prop} {wb : Env -> ag -> PF -> Prop} {ρ : Env} {Φ : PF} (E : ι -> Env) (I : Nat -> ι -> ag -> Prop) (n : Nat) (hn : n < 1000) (h0 : Go E (I n) ρ σ)
  (hs : ∀ n i σ, I n i σ -> wg (E i) σ fun v ab => s6 v ab (Ol n (fun m => Go E (I m)) wb (E i) Φ ab)) : lY wg wb ρ σ Φ :=
 .mk (fun m => Go E (I m)) n hn h0 fun n _ _ h => h.rec fun i {σ} h => hs n i σ h
end
section
variable {α : Type} {ws : PS -> Prop} {wc : V -> ag -> (Bool -> ag -> Prop) -> Prop} {we : V -> ag -> PQ -> Prop} {Q : PQ} {f : α -> V} {S : lH} {L : List V} {all dn td : List α} {g : List α -> List V} {J : List α -> List α -> ag -> Prop} {σ : ag}
noncomputable abbrev s3 (f : α -> V) (S : lH) (L : List V) (all : List α) (g : List α -> List V) (J : List α -> List α -> ag -> Prop) := jq f S L all fun dn td acc σ => acc = g dn /\ J dn td σ
theorem s3.cn (hL : L = all.map f) (hg : [] = g []) (h : J [] all σ) : s3 f S L all g J S L L [] σ := jq.cn hL ⟨hg, h⟩
theorem s3.next {x : α} {v : V} (e : dn ++ x :: td = all) (hg : g dn ++ [v] = g (dn ++ [x])) (h : J (dn ++ [x]) td σ) : s3 f S L all g J S L (td.map f) (g dn ++ [v]) σ := jq.next e ⟨hg, h⟩
theorem s3.skip {x : α} (e : dn ++ x :: td = all) (hg : g dn = g (dn ++ [x])) (h : J (dn ++ [x]) td σ) : s3 f S L all g J S L (td.map f) (g dn) σ := jq.next e ⟨hg, h⟩
theorem c6.cv (f : α -> V) (S : lH) (L : List V) (all : List α) (g : List α -> List V) (J : List α -> List α -> ag -> Prop)
  (h0 : ws fun s l σ => s3 f S L all g J s l l [] σ)
  (hs : ∀ dn x td σ, dn ++ x :: td = all -> J dn (x :: td) σ -> wc (f x) σ fun t ab => pL t (we (f x) ab fun v ah => d8 S L ah /\ s3 f S L all g J S L (td.map f) (g dn ++ [v]) ah) (d8 S L ab /\ s3 f S L all g J S L (td.map f) (g dn) ab))
  (he : ∀ σ, J all [] σ -> (g all).length <= 1000000 /\ y8 S σ fun σ' => Q (.ref σ'.length) (σ' ++ [.list (g all)])) : c6 ws wc we Q :=
 .u0 f S L all _ h0 (fun dn x td _ σ e h => by cases h.1; exact hs dn x td σ e h.2) fun _ σ h => by cases h.1; exact he σ h.2
end
section
variable {α β : Type} {dn td all : List α} {c : α} {f : α -> β}
theorem qy (h : dn ++ c :: td = all) : c ∈ all := h ▸ List.mem_append.mpr (.inr (.head _))
theorem eC (h : dn ++ c :: td = all) : dn.length + 1 <= all.length := by rw [<- h, List.length_append]; exact Nat.add_le_add_left (Nat.succ_le_succ (Nat.zero_le _)) _
theorem de (f : α -> β) (dn : List α) (c : α) : dn.map f ++ [f c] = (dn ++ [c]).map f := by rw [List.map_append]; rfl
theorem uS {p : α -> Bool} (h : p c = true) : (dn.filter p).map f ++ [f c] = ((dn ++ [c]).filter p).map f := by
 rw [List.filter_append, List.map_append, List.filter_cons_of_pos h]; rfl
theorem yD {p : α -> Bool} (h : ¬p c = true) : (dn.filter p).map f = ((dn ++ [c]).filter p).map f := by
 rw [List.filter_append, List.map_append, List.filter_cons_of_neg h]; exact (List.append_nil _).symm
theorem all_map {p : β -> Bool} (h : ∀ x, p (f x) = true) (l : List α) : (l.map f).all p = true := by
 rw [List.all_map]; exact List.all_eq_true.mpr fun x _ => h x
end
end
section OK
variable {T T' Hg : cN} {σ σ' cy : ag} {k j : Nat}
section
def Q8 (z : Int) (k : Nat) : Nat -> Prop
 | 0 => z = (k : Int)
 | m + 1 => z = (k : Int) \/ Q8 z (k + 1) m
theorem gj {z : Int} (m : Nat) : ∀ {k : Nat}, (k : Int) <= z -> z < ((k + m + 1 : Nat) : Int) -> Q8 z k m := by
 induction m with
 | zero => exact fun h1 h2 => Int.le_antisymm (Int.lt_add_one_iff.mp h2) h1
 | succ m ih =>
  intro k h1 h2
  rcases Int.lt_or_eq_of_le h1 with h | h
  ·exact .inr (ih (k := k + 1) h (by rw [Nat.succ_add]; exact h2))
  ·exact .inl h.symm
noncomputable def xT : List (Nat × V) := [(4, .ref 5), (7, .ref 6), (8, .ref 7), (9, .ref 8), (10, .ref 9), (11, .ref 10), (12, .ref 11), (13, .ref 12), (14, .int 0), (15, .int 0)]
noncomputable def aQ : List V := [.ae [.int 1, .str 17], .ae [.int 1, .str 18], .ae [.int 1, .str 19], .ae [.int 1, .str 20], .ae [.int 1, .str 21], .ae [.int 1, .str 22], .ae [.int 1, .str 23], .ae [.int 1, .str 24], .ae [.int 2, .int 0, .int 0], .ae [.int 2, .int 1, .int 0], .ae [.int 1, .str 25], .ae [.int 8, .ae [], .ae [], .ae [], .ae [], .ae [], .int 0], .ae [.int 6, .ae [.int 8, .int 9]], .ae [.int 1, .str 26], .ae [.int 2, .int 0, .int 1], .ae [.int 2, .int 1, .int 1]]
structure cN where
 ak : List V
 aK : List V
 ao : List V
 bk : List V
 names : List V
noncomputable def bR : Nat -> List V -> List (V × V)
 | _, [] => []
 | n, r :: rs => (r, .int n) :: bR (n + 1) rs
noncomputable def cN.size (T : cN) : Nat := T.ak.length + T.ao.length + T.aK.length
structure eW (T : cN) (row : V) : Prop where
 a5 : row.kind = some .ae
 rM : ∀ cq, row = .ae [.int 10, cq] -> ∃ (n : Nat) (b : Int), cq = .int n /\ T.ao[n]? = some (.int b) /\ b < T.ak.length
 y7 : ∀ ps, row = .ae [.int 6, .ae ps] -> ∀ p ∈ ps, ∃ n : Nat, p = .int n /\ n < T.ak.length
structure TR (T : cN) (σ : ag) : Prop where
 aO : σ[4]? = some (.aF 0 xT)
 ak : σ[5]? = some (.list T.ak)
 ib : σ[6]? = some (.dict .ae (bR 0 T.ak))
 aK : σ[7]? = some (.list T.aK)
 ao : σ[8]? = some (.list T.ao)
 bk : σ[9]? = some (.list T.bk)
 names : σ[10]? = some (.list T.names)
 first : aQ <+: T.ak
 IH : T.bk.length = T.ao.length
 IG : T.names.length = T.ao.length
 nodup : T.ak.Nodup
 a5 : ∀ r ∈ T.ak, r.kind = some .ae
 rM : ∀ (t : Nat) (cq : V), T.ak[t]? = some (.ae [.int 10, cq]) -> ∃ (n : Nat) (b : Int), cq = .int n /\ T.ao[n]? = some (.int b) /\ b < t
 y7 : ∀ (t : Nat) (ps : List V), T.ak[t]? = some (.ae [.int 6, .ae ps]) -> ∀ p ∈ ps, ∃ n : Nat, p = .int n /\ n < t
structure bb (k : Nat) (T T' : cN) : Prop where
 ak : T.ak <+: T'.ak
 aK : T.aK <+: T'.aK
 ao : T.ao <+: T'.ao
 size : T'.size <= T.size + k
structure Fr (σ σ' : ag) : Prop where
 len : σ.length <= σ'.length
 old : ∀ (a : Nat) o, σ[a]? = some o -> a < 5 \/ 10 < a -> σ'[a]? = some o
structure TS (k : Nat) (T : cN) (σ : ag) (T' : cN) (σ' : ag) : Prop where
 tr : TR T' σ'
 ext : bb k T T'
 fr : Fr σ σ'
section
theorem bb.refl : bb 0 T T := ⟨List.prefix_refl _, List.prefix_refl _, List.prefix_refl _, Nat.le_refl _⟩
theorem bb.trans (x : bb k T T') (y : bb j T' Hg) : bb (k + j) T Hg := ⟨x.ak.trans y.ak, x.aK.trans y.aK, x.ao.trans y.ao, by have := x.size; have := y.size; lia⟩
theorem bb.row (x : bb k T T') {t : Nat} {r : V} (h : T.ak[t]? = some r) : T'.ak[t]? = some r := by
 obtain ⟨l, e⟩ := x.ak
 rw [<- e, List.getElem?_append_left (dX h)]; exact h
theorem bb.bound (x : bb k T T') {t : Nat} {r : V} (h : T.ao[t]? = some r) : T'.ao[t]? = some r := by
 obtain ⟨l, e⟩ := x.ao
 rw [<- e, List.getElem?_append_left (dX h)]; exact h
theorem bb.decl (x : bb k T T') {t : Nat} {r : V} (h : T.aK[t]? = some r) : T'.aK[t]? = some r := by
 obtain ⟨l, e⟩ := x.aK
 rw [<- e, List.getElem?_append_left (dX h)]; exact h
theorem Fr.refl : Fr σ σ := ⟨Nat.le_refl _, fun _ _ h _ => h⟩
theorem Fr.trans (x : Fr σ σ') (y : Fr σ' cy) : Fr σ cy := ⟨Nat.le_trans x.len y.len, fun a o h g => y.old a o (x.old a o h g) g⟩
theorem Fr.push {o : aN} : Fr σ (σ ++ [o]) := ⟨by rw [List.length_append]; lia, fun _ _ h _ => aH h⟩
theorem Fr.set {n : Nat} {o : aN} (h : 5 <= n /\ n <= 10) : Fr σ (σ.set n o) := ⟨by rw [List.length_set]; lia, fun a _ e g => by rw [au (by lia)]; exact e⟩
theorem TS.trans (x : TS k T σ T' σ') (y : TS j T' σ' Hg cy) : TS (k + j) T σ Hg cy := ⟨y.tr, x.ext.trans y.ext, x.fr.trans y.fr⟩
theorem TR.fr (R : TR T σ) (h : ∀ (a : Nat) o, σ[a]? = some o -> 4 <= a /\ a <= 10 -> σ'[a]? = some o) : TR T σ' :=
 {R with aO := h _ _ R.aO (by lia), ak := h _ _ R.ak (by lia), ib := h _ _ R.ib (by lia), aK := h _ _ R.aK (by lia), ao := h _ _ R.ao (by lia), bk := h _ _ R.bk (by lia), names := h _ _ R.names (by lia) }
theorem TR.bN (R : TR T σ) {t : Nat} {r : V} (h : aQ[t]? = some r) : T.ak[t]? = some r := by
 obtain ⟨l, e⟩ := R.first
 rw [<- e, List.getElem?_append_left (dX h)]; exact h
theorem TR.push (R : TR T σ) {o : aN} : TR T (σ ++ [o]) := R.fr fun _ _ h _ => aH h
theorem TR.set (R : TR T σ) {n : Nat} {o : aN} (h : 10 < n) : TR T (σ.set n o) := R.fr fun a _ e g => by rw [au (by lia)]; exact e
theorem TR.zI (R : TR T σ) : TS 0 T σ T σ := ⟨R, .refl, .refl⟩
theorem sx : ∀ (n : Nat) (l : List V), (bR n l).length = l.length
 | _, [] => rfl
 | n, r :: l => congrArg (· + 1) (sx (n + 1) l)
theorem sy : ∀ (n : Nat) (l : List V) (r : V), bR n (l ++ [r]) = bR n l ++ [(r, .int (n + l.length : Nat))]
 | _, [], _ => rfl
 | n, x :: l, r => by
  show (x, _) :: bR (n + 1) (l ++ [r]) = (x, _) :: (bR (n + 1) l ++ _)
  rw [sy (n + 1) l r, List.length_cons, Nat.add_right_comm, Nat.add_assoc]
theorem nB : ∀ (n : Nat) (l : List V), l.Nodup -> ∀ (t : Nat) (r : V), l[t]? = some r -> bJ (bR n l) r = some (.int (n + t : Nat))
 | _, [], _, _, _, h => by simp at h
 | n, x :: l, hn, 0, r, h => by
  cases h
  unfold bJ bR
  rw [List.find?_cons_of_pos (by simp)]; rfl
 | n, x :: l, hn, t + 1, r, h => by
  rw [List.getElem?_cons_succ] at h
  have hx : x ≠ r := fun e => (List.nodup_cons.mp hn).1 (e ▸ List.mem_of_getElem? h)
  unfold bJ bR
  rw [List.find?_cons_of_neg (by simpa using hx)]
  have := nB (n + 1) l (List.nodup_cons.mp hn).2 t r h
  rw [Nat.add_right_comm, Nat.add_assoc] at this
  exact this
theorem kM : ∀ (n : Nat) (l : List V) (r : V), r ∉ l -> bJ (bR n l) r = none
 | _, [], _, _ => rfl
 | n, x :: l, r, h => by
  rw [List.mem_cons, not_or] at h
  unfold bJ bR
  rw [List.find?_cons_of_neg (by simpa using fun e => h.1 e.symm)]
  exact kM (n + 1) l r h.2
end
end
variable {d : Nat}
section
section
variable {Q : V -> ag -> Prop}
theorem pZ {a : V} (h : WX (cl d) lq.body [some a] σ (a6 Q)) : cl (d + 1) 0 [a] σ Q := av rfl rfl rfl h
theorem sq {a b e : V} (h : WX (cl d) mH.body [some a, some b, some e] σ (a6 Q)) : cl (d + 1) 1 [a, b, e] σ Q := av rfl rfl rfl h
theorem kL {a : V} (h : WX (cl d) gR.body [some a, none] σ (a6 Q)) : cl (d + 1) 2 [a] σ Q := av rfl rfl rfl h
theorem eD {a b : V} (h : WX (cl d) ij.body [some a, some b, none] σ (a6 Q)) : cl (d + 1) 3 [a, b] σ Q := av rfl rfl rfl h
theorem sr {a b e f : V} (h : WX (cl d) mI.body [some a, some b, some e, some f] σ (a6 Q)) : cl (d + 1) 4 [a, b, e, f] σ Q := av rfl rfl rfl h
theorem GI {a b e : V} (h : WX (cl d) jX.body [some a, some b, some e] σ (a6 Q)) : cl (d + 1) 5 [a, b, e] σ Q := av rfl rfl rfl h
theorem pM {a b : V} (h : WX (cl d) jX.body [some a, some b, some (.int 0)] σ (a6 Q)) : cl (d + 1) 5 [a, b] σ Q := av rfl rfl rfl h
theorem sb {a b e f : V} (h : WX (cl d) fZ.body [some a, some b, some e, some f, none] σ (a6 Q)) : cl (d + 1) 6 [a, b, e, f] σ Q := av rfl rfl rfl h
theorem Cf {a b e : V} (h : WX (cl d) fZ.body [some a, some b, some e, some (.int (-1)), none] σ (a6 Q)) : cl (d + 1) 6 [a, b, e] σ Q := av rfl rfl rfl h
theorem Ce {a b : V} (h : WX (cl d) fZ.body [some a, some b, some (.int (-1)), some (.int (-1)), none] σ (a6 Q)) : cl (d + 1) 6 [a, b] σ Q := av rfl rfl rfl h
theorem uw {a b e : V} (h : WX (cl d) oQ.body [some a, some b, some e, none] σ (a6 Q)) : cl (d + 1) 7 [a, b, e] σ Q := av rfl rfl rfl h
theorem uv {a b : V} (h : WX (cl d) oP.body [some a, some b, none] σ (a6 Q)) : cl (d + 1) 8 [a, b] σ Q := av rfl rfl rfl h
theorem mQ {a : V} (h : WX (cl d) iP.body [some a, none] σ (a6 Q)) : cl (d + 1) 9 [a] σ Q := av rfl rfl rfl h
theorem mU {a b : V} (h : WX (cl d) iT.body [some a, some b, none] σ (a6 Q)) : cl (d + 1) 10 [a, b] σ Q := av rfl rfl rfl h
theorem pR {a : V} (h : WX (cl d) kZ.body [some a] σ (a6 Q)) : cl (d + 1) 11 [a] σ Q := av rfl rfl rfl h
theorem mS {a b e : V} (h : WX (cl d) iR.body [some a, some b, some e] σ (a6 Q)) : cl (d + 1) 12 [a, b, e] σ Q := av rfl rfl rfl h
theorem zB {a : V} (h : WX (cl d) uV.body [some a, none] σ (a6 Q)) : cl (d + 1) 13 [a] σ Q := av rfl rfl rfl h
theorem Cb {a b : V} (h : WX (cl d) yF.body [some a, some b, none, none, none, none, none, none] σ (a6 Q)) : cl (d + 1) 14 [a, b] σ Q := av rfl rfl rfl h
theorem wQ {a b e : V} (h : WX (cl d) qK.body [some a, some b, some e, none] σ (a6 Q)) : cl (d + 1) 15 [a, b, e] σ Q := av rfl rfl rfl h
theorem sm {a b : V} (h : WX (cl d) mF.body [some a, some b] σ (a6 Q)) : cl (d + 1) 16 [a, b] σ Q := av rfl rfl rfl h
theorem pS {a b : V} (h : WX (cl d) k7.body [some a, some b] σ (a6 Q)) : cl (d + 1) 17 [a, b] σ Q := av rfl rfl rfl h
theorem uA {a b : V} (h : WX (cl d) oU.body [some a, some b, none] σ (a6 Q)) : cl (d + 1) 18 [a, b] σ Q := av rfl rfl rfl h
theorem oq {a b : V} (h : WX (cl d) jz.body [some a, some b] σ (a6 Q)) : cl (d + 1) 19 [a, b] σ Q := av rfl rfl rfl h
theorem oA {a b : V} (h : WX (cl d) jD.body [some a, some b, none, none, none] σ (a6 Q)) : cl (d + 1) 20 [a, b] σ Q := av rfl rfl rfl h
theorem jf {a b : V} (h : WX (cl d) uW.body [some a, some b, none, none, none] σ (a6 Q)) : cl (d + 1) 21 [a, b] σ Q := av rfl rfl rfl h
theorem iK {a : V} (h : WX (cl d) eZ.body [some a] σ (a6 Q)) : cl (d + 1) 22 [a] σ Q := av rfl rfl rfl h
theorem pU {a : V} (h : WX (cl d) k9.body [some a] σ (a6 Q)) : cl (d + 1) 23 [a] σ Q := av rfl rfl rfl h
theorem oz {a : V} (h : WX (cl d) jC.body [some a, none, none, none] σ (a6 Q)) : cl (d + 1) 24 [a] σ Q := av rfl rfl rfl h
theorem uu {a : V} (h : WX (cl d) oO.body [some a, none, none, none, none, none, none, none] σ (a6 Q)) : cl (d + 1) 25 [a] σ Q := av rfl rfl rfl h
theorem r7 {a : V} (h : WX (cl d) mx.body [some a] σ (a6 Q)) : cl (d + 1) 26 [a] σ Q := av rfl rfl rfl h
theorem pT {a b : V} (h : WX (cl d) k8.body [some a, some b, none, none] σ (a6 Q)) : cl (d + 1) 27 [a, b] σ Q := av rfl rfl rfl h
theorem wW {a b : V} (h : WX (cl d) qN.body [some a, some b, none, none, none] σ (a6 Q)) : cl (d + 1) 28 [a, b] σ Q := av rfl rfl rfl h
theorem oE {a b : V} (h : WX (cl d) jH.body [some a, some b, none, none, none, none, none, none, none] σ (a6 Q)) : cl (d + 1) 29 [a, b] σ Q := av rfl rfl rfl h
theorem pV {a b : V} (h : WX (cl d) lg.body [some a, some b] σ (a6 Q)) : cl (d + 1) 30 [a, b] σ Q := av rfl rfl rfl h
theorem bu {a b e : V} (h : WX (cl d) eE.body [some a, some b, some e, none, none, none] σ (a6 Q)) : cl (d + 1) 31 [a, b, e] σ Q := av rfl rfl rfl h
theorem vJ {a b : V} (h : WX (cl d) eE.body [some a, some b, some (.int 0), none, none, none] σ (a6 Q)) : cl (d + 1) 31 [a, b] σ Q := av rfl rfl rfl h
theorem gw {a b e : V} (h : WX (cl d) dC.body [some a, some b, some e, none] σ (a6 Q)) : cl (d + 1) 32 [a, b, e] σ Q := av rfl rfl rfl h
theorem hH {a b e : V} (h : WX (cl d) eo.body [some a, some b, some e, none, none] σ (a6 Q)) : cl (d + 1) 33 [a, b, e] σ Q := av rfl rfl rfl h
theorem ou {a b : V} (h : WX (cl d) jA.body [some a, some b, none, none] σ (a6 Q)) : cl (d + 1) 34 [a, b] σ Q := av rfl rfl rfl h
theorem so {a b : V} (h : WX (cl d) mG.body [some a, some b] σ (a6 Q)) : cl (d + 1) 35 [a, b] σ Q := av rfl rfl rfl h
theorem pY {a b : V} (h : WX (cl d) lp.body [some a, some b] σ (a6 Q)) : cl (d + 1) 36 [a, b] σ Q := av rfl rfl rfl h
theorem iL {a b : V} (h : WX (cl d) fb.body [some a, some b] σ (a6 Q)) : cl (d + 1) 37 [a, b] σ Q := av rfl rfl rfl h
theorem uF {a b e : V} (h : WX (cl d) oZ.body [some a, some b, some e] σ (a6 Q)) : cl (d + 1) 38 [a, b, e] σ Q := av rfl rfl rfl h
theorem wZ {a b e : V} (h : WX (cl d) qQ.body [some a, some b, some e] σ (a6 Q)) : cl (d + 1) 39 [a, b, e] σ Q := av rfl rfl rfl h
theorem uD {a b : V} (h : WX (cl d) oX.body [some a, some b] σ (a6 Q)) : cl (d + 1) 40 [a, b] σ Q := av rfl rfl rfl h
theorem uC {a b e : V} (h : WX (cl d) oW.body [some a, some b, some e] σ (a6 Q)) : cl (d + 1) 41 [a, b, e] σ Q := av rfl rfl rfl h
theorem uE {a : V} (h : WX (cl d) oY.body [some a] σ (a6 Q)) : cl (d + 1) 42 [a] σ Q := av rfl rfl rfl h
theorem oG {a b e f : V} (h : WX (cl d) qP.body [some a, some b, some e, some f, none] σ (a6 Q)) : cl (d + 1) 43 [a, b, e, f] σ Q := av rfl rfl rfl h
theorem oo {a b : V} (h : WX (cl d) jy.body [some a, some b, none] σ (a6 Q)) : cl (d + 1) 44 [a, b] σ Q := av rfl rfl rfl h
theorem wU {a : V} (h : WX (cl d) qL.body [some a] σ (a6 Q)) : cl (d + 1) 45 [a] σ Q := av rfl rfl rfl h
theorem uB {a b : V} (h : WX (cl d) oV.body [some a, some b] σ (a6 Q)) : cl (d + 1) 46 [a, b] σ Q := av rfl rfl rfl h
theorem wV {a b : V} (h : WX (cl d) qM.body [some a, some b] σ (a6 Q)) : cl (d + 1) 47 [a, b] σ Q := av rfl rfl rfl h
theorem hS {a b e : V} (h : WX (cl d) mE.body [some a, some b, some e, none, none] σ (a6 Q)) : cl (d + 1) 48 [a, b, e] σ Q := av rfl rfl rfl h
theorem mT {a b e : V} (h : WX (cl d) iS.body [some a, some b, some e, none, none, none] σ (a6 Q)) : cl (d + 1) 49 [a, b, e] σ Q := av rfl rfl rfl h
theorem oF {a b : V} (h : WX (cl d) jI.body [some a, some b, none] σ (a6 Q)) : cl (d + 1) 50 [a, b] σ Q := av rfl rfl rfl h
theorem Cd {a : V} (h : WX (cl d) yG.body [some a] σ (a6 Q)) : cl (d + 1) 51 [a] σ Q := av rfl rfl rfl h
theorem om {a b e : V} (h : WX (cl d) jx.body [some a, some b, some e] σ (a6 Q)) : cl (d + 1) 52 [a, b, e] σ Q := av rfl rfl rfl h
theorem kJ {a b e : V} (h : WX (cl d) gP.body [some a, some b, some e, none, none, none, none] σ (a6 Q)) : cl (d + 1) 53 [a, b, e] σ Q := av rfl rfl rfl h
theorem mR {a b e : V} (h : WX (cl d) iQ.body [some a, some b, some e] σ (a6 Q)) : cl (d + 1) 54 [a, b, e] σ Q := av rfl rfl rfl h
theorem ju {a b e : V} (h : WX (cl d) kT.body [some a, some b, some e, none, none, none] σ (a6 Q)) : cl (d + 1) 55 [a, b, e] σ Q := av rfl rfl rfl h
theorem ur {a b : V} (h : WX (cl d) oN.body [some a, some b] σ (a6 Q)) : cl (d + 1) 56 [a, b] σ Q := av rfl rfl rfl h
theorem pW {a b e : V} (h : WX (cl d) lh.body [some a, some b, some e, none] σ (a6 Q)) : cl (d + 1) 57 [a, b, e] σ Q := av rfl rfl rfl h
theorem rZ {a b e : V} (h : WX (cl d) mv.body [some a, some b, some e, none, none, none] σ (a6 Q)) : cl (d + 1) 58 [a, b, e] σ Q := av rfl rfl rfl h
theorem mu {a b e : V} (h : WX (cl d) oM.body [some a, some b, some e, none, none, none] σ (a6 Q)) : cl (d + 1) 59 [a, b, e] σ Q := av rfl rfl rfl h
theorem r0 {a b e : V} (h : WX (cl d) mw.body [some a, some b, some e, none, none, none] σ (a6 Q)) : cl (d + 1) 60 [a, b, e] σ Q := av rfl rfl rfl h
theorem r9 {a b : V} (h : WX (cl d) mz.body [some a, some b] σ (a6 Q)) : cl (d + 1) 61 [a, b] σ Q := av rfl rfl rfl h
theorem r8 {a b : V} (h : WX (cl d) my.body [some a, some b, none] σ (a6 Q)) : cl (d + 1) 62 [a, b] σ Q := av rfl rfl rfl h
theorem pN {a b e : V} (h : WX (cl d) kU.body [some a, some b, some e, none, none] σ (a6 Q)) : cl (d + 1) 63 [a, b, e] σ Q := av rfl rfl rfl h
theorem jv {a b : V} (h : WX (cl d) kW.body [some a, some b, none] σ (a6 Q)) : cl (d + 1) 64 [a, b] σ Q := av rfl rfl rfl h
theorem se {a b e : V} (h : WX (cl d) mA.body [some a, some b, some e] σ (a6 Q)) : cl (d + 1) 65 [a, b, e] σ Q := av rfl rfl rfl h
theorem jT {a : V} (h : WX (cl d) f5.body [some a] σ (a6 Q)) : cl (d + 1) 66 [a] σ Q := av rfl rfl rfl h
theorem rY {a b e f : V} (h : WX (cl d) bX.body [some a, some b, some e, some f, none, none] σ (a6 Q)) : cl (d + 1) 67 [a, b, e, f] σ Q := av rfl rfl rfl h
theorem oD {a b e : V} (h : WX (cl d) jG.body [some a, some b, some e, none, none] σ (a6 Q)) : cl (d + 1) 68 [a, b, e] σ Q := av rfl rfl rfl h
theorem oC {a b e : V} (h : WX (cl d) jF.body [some a, some b, some e, none] σ (a6 Q)) : cl (d + 1) 69 [a, b, e] σ Q := av rfl rfl rfl h
theorem oy {a b e : V} (h : WX (cl d) jB.body [some a, some b, some e, none] σ (a6 Q)) : cl (d + 1) 70 [a, b, e] σ Q := av rfl rfl rfl h
theorem mV {a b : V} (h : WX (cl d) iU.body [some a, some b, none] σ (a6 Q)) : cl (d + 1) 71 [a, b] σ Q := av rfl rfl rfl h
theorem pX {a b e : V} (h : WX (cl d) cV.body [some a, some b, some e, none, none, none, none] σ (a6 Q)) : cl (d + 1) 72 [a, b, e] σ Q := av rfl rfl rfl h
theorem sf {a : V} (h : WX (cl d) mB.body [some a] σ (a6 Q)) : cl (d + 1) 73 [a] σ Q := av rfl rfl rfl h
theorem uz {a b e : V} (h : WX (cl d) oT.body [some a, some b, some e, none, none] σ (a6 Q)) : cl (d + 1) 74 [a, b, e] σ Q := av rfl rfl rfl h
theorem kK {a b e : V} (h : WX (cl d) gQ.body [some a, some b, some e] σ (a6 Q)) : cl (d + 1) 75 [a, b, e] σ Q := av rfl rfl rfl h
theorem oB {a b e : V} (h : WX (cl d) jE.body [some a, some b, some e, none] σ (a6 Q)) : cl (d + 1) 76 [a, b, e] σ Q := av rfl rfl rfl h
theorem jU {a b : V} (h : WX (cl d) f9.body [some a, some b] σ (a6 Q)) : cl (d + 1) 77 [a, b] σ Q := av rfl rfl rfl h
theorem fK {a b e f : V} (h : WX (cl d) f7.body [some a, some b, some e, some f] σ (a6 Q)) : cl (d + 1) 78 [a, b, e, f] σ Q := av rfl rfl rfl h
theorem gM {a b e : V} (h : WX (cl d) ig.body [some a, some b, some e, none, none] σ (a6 Q)) : cl (d + 1) 79 [a, b, e] σ Q := av rfl rfl rfl h
theorem iu {a : V} (h : WX (cl d) eN.body [some a] σ (a6 Q)) : cl (d + 1) 80 [a] σ Q := av rfl rfl rfl h
theorem ux {a b : V} (h : WX (cl d) oR.body [some a, some b, none, none] σ (a6 Q)) : cl (d + 1) 81 [a, b] σ Q := av rfl rfl rfl h
theorem uy {a b : V} (h : WX (cl d) oS.body [some a, some b, none, none] σ (a6 Q)) : cl (d + 1) 82 [a, b] σ Q := av rfl rfl rfl h
theorem pQ {a : V} (h : WX (cl d) kY.body [some a, none, none, none, none] σ (a6 Q)) : cl (d + 1) 83 [a] σ Q := av rfl rfl rfl h
theorem wY {a b : V} (h : WX (cl d) qO.body [some a, some b, none, none, none, none, none, none] σ (a6 Q)) : cl (d + 1) 84 [a, b] σ Q := av rfl rfl rfl h
theorem pO {a : V} (h : WX (cl d) kX.body [some a, none, none, none, none, none, none, none] σ (a6 Q)) : cl (d + 1) 85 [a] σ Q := av rfl rfl rfl h
theorem pP {a b : V} (h : WX (cl d) a0.body [some a, some b, none, none, none, none, none, none, none, none, none, none, none, none, none, none, none, none, none, none] σ (a6 Q)) : cl (d + 1) 86 [a, b] σ Q := av rfl rfl rfl h
theorem sg {a b e f g i : V} (h : WX (cl d) mC.body [some a, some b, some e, some f, some g, some i, none, none, none, none, none, none, none, none, none] σ (a6 Q)) : cl (d + 1) 87 [a, b, e, f, g, i] σ Q := av rfl rfl rfl h
theorem si {a b : V} (h : WX (cl d) mD.body [some a, some b, none, none, none] σ (a6 Q)) : cl (d + 1) 88 [a, b] σ Q := av rfl rfl rfl h
theorem sj {a b e : V} (h : WX (cl d) bz.body [some a, some b, some e, none, none, none, none, none, none, none, none, none, none, none, none, none, none, none, none, none, none, none, none, none, none, none, none, none, none, none, none, none, none] σ (a6 Q)) : cl (d + 1) 89 [a, b, e] σ Q := av rfl rfl rfl h
theorem IS {a : V} (h : WX (cl d) CI.body [some a, none, none, none, none, none, none, none] σ (a6 Q)) : cl (d + 1) 90 [a] σ Q := av rfl rfl rfl h
end
end
section
end
set_option hygiene false in
local macro_rules | `(tactic| cbv) => `(tactic| repeat (first
 | refine fM (by assumption) ?_
 | refine qZ (by assumption) rfl ?_
 | refine eF (by assumption) rfl ?_))
variable {t : Nat} {ps : List V}
section
section
variable {Q : V -> ag -> Prop}
theorem bb.up (x : bb k T T') (h : k <= j) : bb j T T' := ⟨x.ak, x.aK, x.ao, Nat.le_trans x.size (by lia)⟩
theorem yQ {l : List V} {x y : V} {t : Nat} (h : (l ++ [x])[t]? = some y) : (t < l.length /\ l[t]? = some y) \/ (t = l.length /\ x = y) := by
 by_cases ht : t < l.length
 ·rw [List.getElem?_append_left ht] at h; exact .inl ⟨ht, h⟩
 ·rw [List.getElem?_append_right (by lia)] at h
  obtain ⟨JV, h2⟩ := List.getElem?_eq_some_iff.mp h
  have : t - l.length = 0 := by simpa using JV
  refine .inr ⟨by lia, ?_⟩
  rw [this] at h; exact Option.some.inj h
theorem bT {row : V} (R : TR T σ) (hs : T.size < 1000000) (g : eW T row) (q : ∀ T' σ' (t : Nat), TS 1 T σ T' σ' -> T'.ak[t]? = some row -> T'.ao = T.ao -> T'.aK = T.aK -> Q (.int t) σ') : cl (d + 1) 3 [.ref 4, row] σ Q := by
 have h4 := R.aO
 have h5 := R.ak
 have h6 := R.ib
 refine eD ?_
 cbv
 refine dD (cK h6 g.a5) (jV (fun e => ?_) fun e => ?_)
 ·obtain ⟨v, hv⟩ := Option.isSome_iff_exists.mp e
  by_cases hm : row ∈ T.ak
  ·obtain ⟨t, ht⟩ := List.mem_iff_getElem?.mp hm
   cbv
   refine aG (sH h6 g.a5 (nB 0 T.ak R.nodup t row ht)) ?_
   rw [Nat.zero_add]
   exact q T σ t ⟨R, bb.refl.up (Nat.zero_le _), .refl⟩ ht rfl rfl
  ·rw [kM 0 _ _ hm] at hv; cases hv
 ·have hm : row ∉ T.ak := fun hm => by
   obtain ⟨t, ht⟩ := List.mem_iff_getElem?.mp hm
   rw [nB 0 T.ak R.nodup t row ht] at e; cases e
  have hn := kM 0 _ _ hm
  unfold cN.size at hs
  cbv
  refine b3 h5 ?_
  cbv
  refine cw h5 (by lia) ?_
  have g4 := (au (o := .list (T.ak ++ [row])) (show 5 ≠ 4 by decide)).trans h4
  have g6 := (au (o := .list (T.ak ++ [row])) (show 5 ≠ 6 by decide)).trans h6
  cbv
  refine dI (cg g6 g.a5 (by rw [sx]; lia)) ?_
  cbv
  refine q { T with ak := T.ak ++ [row] } _ T.ak.length ⟨?_, ?_, ?_⟩ ?_ rfl rfl
  ·have hi : cP (bR 0 T.ak) row (.int (T.ak.length : Nat)) = bR 0 (T.ak ++ [row]) := by
    unfold cP; rw [hn, sy, Nat.zero_add]; rfl
   rw [hi]
   have z : ∀ {n : Nat} {o : aN}, σ[n]? = some o -> 6 ≠ n -> 5 ≠ n -> ((σ.set 5 (.list (T.ak ++ [row]))).set 6 (.dict .ae (bR 0 (T.ak ++ [row]))))[n]? = some o := fun h a b => by
    rw [au a, au b]; exact h
   refine ⟨z h4 (by decide) (by decide), by rw [au (by decide)]; exact aE h5, aE g6, z R.aK (by decide) (by decide), z R.ao (by decide) (by decide), z R.bk (by decide) (by decide), z R.names (by decide) (by decide), R.first.trans (List.prefix_append _ _), R.IH, R.IG, ?_, ?_, ?_, ?_⟩
   ·exact List.nodup_append.mpr ⟨R.nodup, List.Pairwise.cons (fun _ h => nomatch h) .nil, fun a ha b hb e => hm (by rw [List.mem_singleton.mp hb] at e; exact e ▸ ha)⟩
   ·intro r hr
    rcases List.mem_append.mp hr with hr | hr
    ·exact R.a5 r hr
    ·rw [List.mem_singleton.mp hr]; exact g.a5
   ·intro t cq ht
    rcases yQ ht with ⟨_, h⟩ | ⟨h1, h2⟩
    ·exact R.rM t cq h
    ·rw [h1]; exact g.rM cq h2
   ·intro t ps ht
    rcases yQ ht with ⟨_, h⟩ | ⟨h1, h2⟩
    ·exact R.y7 t ps h
    ·rw [h1]; exact g.y7 ps h2
  ·exact ⟨List.prefix_append _ _, List.prefix_refl _, List.prefix_refl _, by show (T.ak ++ [row]).length + T.ao.length + T.aK.length <= T.ak.length + T.ao.length + T.aK.length + 1; rw [List.length_append]; show T.ak.length + 1 + _ + _ <= _; lia⟩
  ·exact (Fr.set (by decide)).trans (Fr.set (by decide))
  ·exact by rw [List.getElem?_append_right (Nat.le_refl _), Nat.sub_self]; rfl
theorem eW.of {a : Int} {r : List V} (h : V.a5 6 (.ae (.int a :: r)) = true) (h1 : a ≠ 10) (h2 : a ≠ 6) : eW T (.ae (.int a :: r)) :=
 ⟨if_pos h, fun _ e => absurd (V.int.inj (List.cons.inj (V.ae.inj e)).1) h1, fun _ e => absurd (V.int.inj (List.cons.inj (V.ae.inj e)).1) h2⟩
theorem TR.lt (R : TR T σ) {t : Nat} {r : V} (h : T.ak[t]? = some r) : t < T.ak.length := (dX h)
theorem aI (R : TR T σ) {t : Nat} {r : V} (h : T.ak[t]? = some r) : Gg 5 σ (.int t) r := cD R.ak (fh h)
def iZ (T : cN) (t : Nat) (ps : List V) : Prop := (t = 2 /\ ps = []) \/ (t ≠ 2 /\ ∃ (k : Int) (r : List V), T.ak[t]? = some (.ae (.int k :: r)) /\ ((k = 6 /\ r = [.ae ps]) \/ (k ≠ 6 /\ ps = [.int t])))
theorem iZ.ext (h : iZ T t ps) (x : bb k T T') : iZ T' t ps := by
 rcases h with h | ⟨h, k, r, hr, g⟩
 ·exact .inl h
 ·exact .inr ⟨h, k, r, x.row hr, g⟩
theorem cJ {t : Nat} {ps : List V} (R : TR T σ) (h : iZ T t ps) (q : Q (.ae ps) σ) : cl (d + 1) 8 [.ref 4, .int t] σ Q := by
 have h4 := R.aO
 refine uv ?_
 cbv
 refine aj (fun e => ?_) (fun e => ?_)
 ·rcases h with ⟨_, rfl⟩ | ⟨h, _⟩
  ·cbv; exact q
  ·exact absurd (Int.ofNat.inj e) h
 ·rcases h with ⟨rfl, _⟩ | ⟨_, k, r, hr, g⟩
  ·exact absurd rfl e
  ·cbv
   refine aG (aI R hr) ?_
   cbv
   refine aj (fun e => ?_) (fun e => ?_)
   ·rcases g with ⟨_, rfl⟩ | ⟨g, _⟩
    ·cbv; exact q
    ·exact absurd e g
   ·rcases g with ⟨g, _⟩ | ⟨_, rfl⟩
    ·exact absurd g e
    ·cbv; exact q
noncomputable def eG (k : Int) : Int := if k = 3 then 6 else if k = 4 then 7 else -1
theorem tg {a : Int} {r : List V} (h1 : a ≠ 18) (h2 : a ≠ 5) (q : Q (.int (eG a)) σ) : cl (d + 1) 9 [.ae (.int a :: r)] σ Q := by
 refine mQ ?_
 cbv
 refine aj (fun e => ?_) (fun e => ?_)
 ·subst e
  cbv; exact q
 ·cbv
  refine aj (fun e => absurd e h1) (fun _ => ?_)
  cbv
  refine aj (fun e2 => ?_) (fun e2 => ?_)
  ·subst e2
   cbv; exact q
  ·cbv
   refine aj (fun e => absurd e h2) (fun _ => ?_)
   cbv
   unfold eG at q
   rw [if_neg e, if_neg e2] at q
   exact q
end
end
variable {Q : PQ}
section
section
theorem tT {l : List V} {v : V} (h : l.getLast? = some v) : vI l (-1) = some v := by
 rw [List.getLast?_eq_getElem?] at h
 have hl : 0 < l.length := by
  have := (dX h); lia
 unfold vI
 rw [if_neg (by decide), if_pos (by lia), show (-1 + (l.length : Int)).toNat = l.length - 1 by lia]; exact h
def cS (T : cN) (p : Nat) (k : Int) : Prop := p ∉ [0, 1, 2, 8, 13, 14] /\ k ≠ 6 /\ k ≠ 18 /\ k ≠ 5 /\ ∃ r, T.ak[p]? = some (.ae (.int k :: r)) /\ (k ∈ ([2, 3, 4, 8] : List Int) -> ∃ z, (V.int k :: r).getLast? = some (.int z) /\ z ≠ 1)
theorem cS.ext {p : Nat} {k : Int} (h : cS T p k) (x : bb j T T') : cS T' p k := ⟨h.1, h.2.1, h.2.2.1, h.2.2.2.1, h.2.2.2.2.elim fun r p => ⟨r, x.row p.1, p.2⟩⟩
theorem cS.gH {p : Nat} {k : Int} (h : cS T p k) : iZ T p [.int p] := by
 obtain ⟨a, b, c, d, r, e, f⟩ := h
 exact .inr ⟨fun e => by rw [e] at a; exact absurd a (by decide), k, r, e, .inr ⟨b, rfl⟩⟩
theorem DX {p : Nat} {k : Int} (R : TR T σ) (h : cS T p k) (q : Q (.int (-1)) σ) : cl (d + 1) 10 [.ref 4, .int p] σ Q := by
 have h4 := R.aO
 obtain ⟨_, _, _, h5, r, hr, hz⟩ := h
 refine mU ?_
 cbv
 refine aG (aI R hr) ?_
 cbv
 refine aj (fun e => ?_) (fun e => ?_)
 ·have : k ∈ ([2, 3, 4, 8] : List Int) := by
   simp only [List.mem_cons, V.int.injEq, List.not_mem_nil, or_false] at e ⊢
   lia
  obtain ⟨z, hz, zD⟩ := hz this
  cbv
  refine ir (tT hz) ?_
  cbv
  refine aj (fun e => absurd e zD) (fun _ => ?_)
  cbv
  exact q
 ·cbv
  refine aj (fun e2 => absurd e2 e) (fun _ => ?_)
  cbv
  exact q
noncomputable def gk (ks : List Nat) : List (V × V) := ks.map fun (k : Nat) => (.int k, .int 1)
noncomputable def fk (ks : List Nat) (k : Nat) : List Nat := if k ∈ ks then ks else ks ++ [k]
theorem sG : ∀ {ks : List Nat} {z : Int}, bJ (gk ks) (.int z) = if ∃ k ∈ ks, (k : Int) = z then some (.int 1) else none := by
 intro ks z
 induction ks with
 | nil => rw [if_neg (fun ⟨_, h, _⟩ => nomatch h)]; rfl
 | cons k ks ih =>
  unfold bJ gk at ih ⊢
  rw [List.map_cons]
  by_cases h : (k : Int) = z
  ·rw [List.find?_cons_of_pos (by simpa using h), if_pos ⟨k, .head _, h⟩]; rfl
  ·rw [List.find?_cons_of_neg (by simpa using h), ih]
   by_cases g : ∃ a ∈ ks, (a : Int) = z
   ·obtain ⟨a, ha, e⟩ := g
    rw [if_pos ⟨a, ha, e⟩, if_pos ⟨a, .tail _ ha, e⟩]
   ·rw [if_neg g, if_neg]
    rintro ⟨a, ha, e⟩
    rcases List.mem_cons.mp ha with rfl | ha
    ·exact h e
    ·exact g ⟨a, ha, e⟩
theorem uL {ks : List Nat} {z : Int} (h : ∀ k ∈ ks, (k : Int) ≠ z) : (bJ (gk ks) (.int z)).isSome = false := by
 rw [sG, if_neg]; · rfl
 rintro ⟨k, hk, e⟩; exact h k hk e
theorem Cv {ks : List Nat} {k : Nat} : cP (gk ks) (.int k) (.int 1) = gk (fk ks k) := by
 unfold fk
 by_cases h : k ∈ ks
 ·have e : bJ (gk ks) (.int k) = some (.int 1) := by rw [sG]; exact if_pos ⟨k, h, rfl⟩
  unfold cP
  rw [e, if_pos h]
  show (gk ks).map _ = gk ks
  unfold gk
  rw [List.map_map]
  refine List.map_congr_left fun a _ => ?_
  show (if V.int a = V.int k then (V.int a, V.int 1) else (V.int a, V.int 1)) = _
  split <;> rfl
 ·have e : bJ (gk ks) (.int k) = none := by rw [sG]; exact if_neg fun ⟨a, ha, e⟩ => h (Int.ofNat.inj e ▸ ha)
  unfold cP
  rw [e, if_neg h]
  show gk ks ++ _ = _; unfold gk; rw [List.map_append]; rfl
theorem HC {n : Nat} {ks : List Nat} (h : σ[n]? = some (.dict .int (gk ks))) (h0 : 0 ∉ ks) (h1 : 1 ∉ ks) (NN : 13 ∉ ks) (q : Q (.int (-1)) σ) : cl (d + 1) 13 [.ref n] σ Q := by
 refine zB ?_
 have no : ∀ z : Nat, z ∉ ks -> (bJ (gk ks) (.int z)).isSome = false := fun z hz => uL fun k hk e => hz (Int.ofNat.inj e ▸ hk)
 refine cT.cv (fun k : Nat => .int k) (.seq (.ae [.int 0, .int 13, .int 1])) [.int 0, .int 13, .int 1] [0, 13, 1] (fun i : E8 => [some (.ref n), i.a]) (fun _ _ _ σ' => σ = σ') ?_ ?_ ?_
 ·change Ah _ _ _ _ _ _ _ _ _ _ _
  exact .cn (by rfl) E8.o rfl
 ·rintro dn x td i _ hm rfl
  have hx : x ∉ ks := by
   rcases List.mem_cons.mp (qy hm) with rfl | IW
   ·exact h0
   rcases List.mem_cons.mp IW with rfl | IW
   ·exact NN
   rw [List.mem_singleton.mp IW]; exact h1
  cbv
  refine dD (cK h rfl) (cY (no x hx) ?_)
  cbv
  exact ⟨rfl, .next hm (E8.p _) rfl⟩
 ·rintro i _ rfl
  cbv
  exact q
theorem EY {n : Nat} {ks : List Nat} (h : σ[n]? = some (.dict .int (gk ks))) (h8 : 8 ∉ ks) (J3 : 14 ∉ ks) (q : Q .none σ) : cl (d + 1) 11 [.ref n] σ Q := by
 refine pR ?_
 have no : ∀ z : Nat, z ∉ ks -> (bJ (gk ks) (.int z)).isSome = false := fun z hz => uL fun k hk e => hz (Int.ofNat.inj e ▸ hk)
 cbv
 refine dD (cK h rfl) (cY (no 8 h8) ?_)
 cbv
 refine dD (cK h rfl) (cY (no 14 J3) ?_)
 refine cY (no 14 J3) ?_
 cbv
 exact q
theorem Be {n p : Nat} {ks : List Nat} {k : Int} (R : TR T σ) (h : σ[n]? = some (.dict .int (gk ks))) (hp : cS T p k) (hw : ∀ k' ∈ ks, (k' : Int) ≠ eG k) (q : Q (.bool true) σ) : cl (d + 2) 12 [.ref 4, .ref n, .int p] σ Q := by
 have h4 := R.aO
 have Al := hp
 obtain ⟨_, _, P2, h5, r, hr, hz⟩ := hp
 refine mS ?_
 cbv
 refine DX R Al ?_
 cbv
 refine dD (cK h rfl) (cY (uL fun k _ e => by lia) ?_)
 cbv
 refine aG (aI R hr) ?_
 cbv
 refine tg P2 h5 ?_
 cbv
 refine dD (.d9 (cK h rfl)) ?_
 rw [uL hw]
 exact q
end
end
section
section
inductive Fl (T : cN) : List V -> List Nat -> Prop
 | nil : Fl T [] []
 | cons {t : Nat} {qs r : List Nat} {xs : List V} : iZ T t (qs.map fun (q : Nat) => V.int q) -> Fl T xs r -> Fl T (.int t :: xs) (qs ++ r)
noncomputable def sd (fl : List Nat) : List Int := ((fl.foldl fk []).map fun (k : Nat) => (k : Int)).mergeSort (fun a b => decide (a <= b))
def Un (T : cN) (u : Nat) (L : List Int) : Prop := (L = [] /\ u = 2) \/ L = [(u : Int)] \/ (2 <= L.length /\ T.ak[u]? = some (.ae [.int 6, .ae (L.map .int)]))
set_option tactic.hygienic true in
theorem cR : ∀ (fl ks : List Nat) (p : Nat), p ∈ fl.foldl fk ks <-> p ∈ ks \/ p ∈ fl
 | [], ks, p => by simp
 | q :: fl, ks, p => by
  rw [List.foldl_cons, cR fl, List.mem_cons]
  unfold fk
  split
  ·rename_i h
   constructor
   ·rintro (h | h)
    ·exact .inl h
    ·exact .inr (.inr h)
   ·rintro (h | rfl | h)
    ·exact .inl h
    ·exact .inl h
    ·exact .inr h
  ·rw [List.mem_append, List.mem_singleton, or_assoc]
theorem c9 {fl : List Nat} {z : Int} : z ∈ sd fl <-> ∃ p ∈ fl, (p : Int) = z := by
 unfold sd
 rw [(List.mergeSort_perm _ _).mem_iff, List.mem_map]
 constructor
 ·rintro ⟨p, hp, e⟩
  rcases (cR fl [] p).mp hp with h | h
  ·cases h
  ·exact ⟨p, h, e⟩
 ·rintro ⟨p, hp, e⟩; exact ⟨p, (cR fl [] p).mpr (.inr hp), e⟩
set_option tactic.hygienic true in
theorem pk : ∀ (fl ks : List Nat), ks.Nodup -> (fl.foldl fk ks).Nodup
 | [], _, h => h
 | q :: fl, ks, h => by
  refine pk fl _ ?_
  unfold fk
  split
  ·exact h
  ·rename_i hq
   exact List.nodup_append.mpr ⟨h, .cons (fun _ h => nomatch h) .nil, fun a ha b hb e => hq (by rw [List.mem_singleton.mp hb] at e; exact e ▸ ha)⟩
theorem eO : ∀ (fl ks : List Nat), (fl.foldl fk ks).length <= ks.length + fl.length
 | [], ks => by simp
 | q :: fl, ks => by
  refine Nat.le_trans (eO fl _) ?_
  unfold fk
  split
  ·rw [List.length_cons]; lia
  ·rw [List.length_append, List.length_cons]; simp only [List.length_cons, List.length_nil]; lia
theorem KH {fl : List Nat} : (sd fl).Nodup := by
 unfold sd
 refine (List.mergeSort_perm _ _).nodup_iff.mpr ?_
 exact List.Pairwise.map _ (fun a b h e => h (Int.ofNat.inj e)) (pk fl [] .nil)
theorem um : ∀ (ks : List Nat), fW ((gk ks).map (·.1)) = some (ks.map fun (k : Nat) => (k : Int))
 | [] => rfl
 | k :: ks => by show Option.map _ (fW ((gk ks).map (·.1))) = _; rw [um ks]; rfl
theorem zb {v : V} {l : List V} {R : PS} (h : lF v l σ) (q : R (.seq v) l σ) : tD R v σ := by
 cases v with
 | ae l' => have h : l' = l := h; subst h; exact q
 | ref n => exact .list h q
 | _ => exact h.elim
theorem eL {n : Nat} {l : List V} {R : PS} (h : σ[n]? = some (.list l)) (q : R (.seq (.ref n)) l σ) : N7 n σ R := .list h q
theorem qC {v : V} {l : List V} (h : lF v l σ) (k : ∀ n o, v = .ref n -> σ[n]? = some o -> σ'[n]? = some o) : lF v l σ' := by
 cases v with
 | ref n => exact k n _ rfl h
 | _ => exact h
theorem ba {n : Nat} {l : List V} (h : σ[n]? = some (.list l)) : lF (.ref n) l σ := h
theorem ma {n : Nat} {l : List V} (h : σ[n]? = some (.list l)) : Dn n σ (!l.isEmpty) := .list h
theorem jJ {n : Nat} {l : List V} (h : σ[n]? = some (.list l)) (q : Q (.ae l) σ) : Gi .tuple n σ Q := .mk (.tuple h) q
theorem qp {n : Nat} {ks : List Nat} (h : σ[n]? = some (.dict .int (gk ks))) (hl : ks.length < 64) (q : Q (.ref σ.length) (σ ++ [.list (((ks.map fun (k : Nat) => (k : Int)).mergeSort (fun a b => decide (a <= b))).map .int)])) : Gi .sorted n σ Q :=
 .mk (.Gq h (by unfold gk; rw [List.length_map]; exact hl) (um ks)) q
theorem xW {o p : aN} : (σ ++ [o]).set σ.length p = σ ++ [p] := by
 rw [List.set_append_right _ _ (Nat.le_refl _), Nat.sub_self]; rfl
theorem Un.gH (R : TR T σ) {u : Nat} {L : List Int} (h : Un T u L) (hp : ∀ z ∈ L, ∃ (p : Nat) (k : Int), z = p /\ cS T p k) : iZ T u (L.map .int) := by
 rcases h with ⟨rfl, rfl⟩ | rfl | ⟨h, e⟩
 ·exact .inl ⟨rfl, rfl⟩
 ·obtain ⟨p, k, e, g⟩ := hp _ (.head _)
  rw [Int.ofNat.inj e]; exact g.gH
 ·refine .inr ⟨?_, 6, _, e, .inl ⟨rfl, rfl⟩⟩
  rintro rfl
  rw [R.bN (t := 2) rfl] at e
  cases e
theorem wD (L : List Int) : V.a5 6 (.ae [.int 6, .ae (L.map .int)]) = true := by
 show (true && (V.a5 5 (.ae (L.map .int)) && true)) = true
 rw [Bool.true_and, Bool.and_true]
 exact List.all_eq_true.mpr fun x hx => by obtain ⟨z, _, rfl⟩ := List.mem_map.mp hx; rfl
theorem Fl.SW {xs : List V} {fl : List Nat} (h : Fl T xs fl) : ∃ ps : List (Nat × List Nat), xs = ps.map (fun p => .int p.1) /\ fl = ps.flatMap (·.2) /\ ∀ p ∈ ps, iZ T p.1 (p.2.map fun (q : Nat) => V.int q) :=
 h.rec ⟨[], rfl, rfl, fun _ h => nomatch h⟩ fun {t qs _ _} g _ ih => ih.elim fun ps i =>
  ⟨(t, qs) :: ps, congrArg (_ :: ·) i.1, congrArg (qs ++ ·) i.2.1, fun p hp => (List.mem_cons.mp hp).elim (fun e => e ▸ g) (i.2.2 p)⟩
theorem Jq {ps dn td : List (Nat × List Nat)} {p : Nat × List Nat} {l1 l2 : List Nat} {z : Nat} (h : dn ++ p :: td = ps) (h2 : l1 ++ z :: l2 = p.2) : (dn.flatMap (·.2) ++ l1).length + 1 <= (ps.flatMap (·.2)).length := by
 rw [<- h, List.flatMap_append, List.flatMap_cons, <- h2, List.length_append, List.length_append, List.length_append, List.length_append, List.length_cons]; lia
theorem gF {bO : V} {xs : List V} {fl : List Nat} (R : TR T σ) (hs : T.size < 1000000) (iM : lF bO xs σ) (hf : Fl T xs fl) (hl : fl.length < 64)
  (hp : ∀ p ∈ fl, ∃ k, cS T p k /\ ∀ p' ∈ fl, (p' : Int) ≠ eG k)
  (q : ∀ T' σ' (u : Nat), TS 1 T σ T' σ' -> T'.ao = T.ao -> T'.aK = T.aK -> Un T' u (sd fl) -> Q (.int u) σ') : cl (d + 3) 14 [.ref 4, bO] σ Q := by
 have no : ∀ p ∈ fl.foldl fk [], p ∈ fl := fun p h => (cR fl [] p |>.mp h).elim (fun h => nomatch h) id
 have gI : ∀ p ∈ [0, 1, 2, 8, 13, 14], p ∉ fl.foldl fk [] := fun p h g => (hp p (no p g)).elim fun k h1 => h1.1.1 h
 obtain ⟨ps, rfl, J0, nD⟩ := hf.SW
 refine Cb ?_
 cbv
 refine cT.cv (fun p : Nat × List Nat => .int p.1) (.seq bO) (ps.map fun p => .int p.1) ps (fun i : E8 => [some (.ref 4), some bO, some (.ref σ.length), i.a, i.b, none, none, none])
  (fun dn _ _ σ' => σ ++ [.dict .int (gk ((dn.flatMap (·.2)).foldl fk []))] = σ') ?_ ?_ ?_
 ·cbv
  refine zb (qC iM fun n o _ h => aH h) ?_
  exact .cn rfl E8.o rfl
 ·rintro dn p td i _ Pl rfl
  refine cT.cv (fun q : Nat => .int q) (.seq (.ae (p.2.map fun (q : Nat) => V.int q))) (p.2.map fun (q : Nat) => V.int q) p.2 (fun i : E8 => [some (.ref 4), some bO, some (.ref σ.length), some (.int p.1), i.b, none, none, none])
   (fun l1 _ _ σ' => σ ++ [.dict .int (gk ((dn.flatMap (·.2) ++ l1).foldl fk []))] = σ') ?_ ?_ ?_
  ·cbv
   refine cJ R.push (nD p (qy Pl)) ?_
   exact .cn rfl (E8.p2 none _) (by rw [List.append_nil])
  ·rintro l1 z l2 i _ hz rfl
   cbv
   refine dI (cg ay rfl (by have := eO (dn.flatMap (·.2) ++ l1) []; have := Jq Pl hz; unfold gk; rw [List.length_map]; rw [List.length_nil] at *; lia)) ?_
   rw [Cv, xW]
   exact ⟨rfl, .next hz (E8.p2 none _) (by rw [<- List.append_assoc, List.foldl_append (l' := [z])]; rfl)⟩
  ·rintro i _ rfl
   exact ⟨qC iM fun n o _ h => aH h, .next Pl (E8.p2 _ _) (by rw [List.flatMap_append, List.flatMap_cons, List.flatMap_nil, List.append_nil])⟩
 ·rintro i _ rfl
  rw [<- J0]
  have hL : ∀ z ∈ sd fl, ∃ p : Nat, p ∈ fl.foldl fk [] /\ (p : Int) = z := fun z hz => (c9.mp hz).elim fun p h => ⟨p, (cR fl [] p).mpr (.inr h.1), h.2⟩
  cbv
  refine HC ay (gI 0 (by decide)) (gI 1 (by decide)) (gI 13 (by decide)) ?_
  cbv
  refine EY ay (gI 8 (by decide)) (gI 14 (by decide)) ?_
  cbv
  refine c6.cv .int (.seq (.ref (σ.length + 1))) ((sd fl).map .int) (sd fl) (fun dn => dn.map .int) (fun _ _ σ' => σ ++ [.dict .int (gk (fl.foldl fk []))] ++ [.list ((sd fl).map .int)] = σ') ?_ ?_ ?_
  ·cbv
   refine qp ay (by have := eO fl []; rw [List.length_nil] at this; lia) ?_
   refine eL ay ?_
   rw [List.length_append]
   exact .cn rfl rfl rfl
  ·rintro dn z td _ hz rfl
   obtain ⟨p, Al, e⟩ := hL z (qy hz)
   obtain ⟨k, hk, hw⟩ := hp p (no p Al)
   subst e
   cbv
   refine Be (R.push.push) (aH ay) hk (fun k' JZ => hw k' (no k' JZ)) ?_
   cbv
   refine ⟨?_, .next hz (de ..) rfl⟩
   have := ay (σ := σ ++ [.dict .int (gk (fl.foldl fk []))]) (p := .list ((sd fl).map .int))
   rw [List.length_append] at this
   exact ba this
  ·rintro _ rfl
   have Pd : (σ ++ [aN.dict .int (gk (fl.foldl fk []))] ++ [aN.list ((sd fl).map .int)]).length = σ.length + 2 := by rw [List.length_append, List.length_append]; rfl
   have cQ : (sd fl).length < 64 := by
    unfold sd; rw [List.length_mergeSort, List.length_map]; have := eO fl []; rw [List.length_nil] at this; lia
   have f3 : Fr σ (σ ++ [.dict .int (gk (fl.foldl fk []))] ++ [.list ((sd fl).map .int)] ++ [.list ((sd fl).map .int)]) := Fr.push.trans (Fr.push.trans Fr.push)
   have R3 := (R.push (o := .dict .int (gk (fl.foldl fk [])))).push (o := .list ((sd fl).map .int)) |>.push (o := .list ((sd fl).map .int))
   have h4 := R3.aO
   refine ⟨by rw [List.length_map]; lia, ?_⟩
   refine Gn (ma ay) ?_
   have Mf : sd fl = [] \/ ∃ z L, sd fl = z :: L := by
    cases sd fl with
    | nil => exact .inl rfl
    | cons z L => exact .inr ⟨z, L, rfl⟩
   rcases Mf with vK | ⟨z, L, vK⟩
   ·refine iI (by rw [vK]; rfl) ?_
    exact q T _ 2 ⟨R3, bb.refl.up (Nat.zero_le _), f3⟩ rfl rfl (.inl ⟨vK, rfl⟩)
   ·refine cY (by rw [vK]; rfl) ?_
    refine b3 ay ?_
    cbv
    refine aj (fun e => ?_) (fun e => ?_)
    ·have : L = [] := by
      rw [vK] at e
      cases L with
      | nil => rfl
      | cons => simp only [List.map_cons, List.length_cons] at e; lia
     subst this
     obtain ⟨p, Al, e⟩ := hL z (by rw [vK]; exact .head _)
     cbv
     refine aG (cD ay (by rw [vK]; rfl)) ?_
     rw [<- e] at vK ⊢
     exact q T _ p ⟨R3, bb.refl.up (Nat.zero_le _), f3⟩ rfl rfl (.inr (.inl vK))
    ·cbv
     refine b3 ay ?_
     cbv
     refine aj (fun e => ?_) (fun _ => ?_)
     ·rw [List.length_map] at e; lia
     cbv
     refine jJ ay ?_
     cbv
     refine bT (row := .ae [.int 6, .ae ((sd fl).map .int)]) R3 hs ⟨if_pos (wD _), fun _ e => ?_, fun ps e p Al => ?_⟩ ?_
     ·cases e
     ·cases e
      obtain ⟨z, hz, rfl⟩ := List.mem_map.mp Al
      obtain ⟨p, LR, rfl⟩ := hL z hz
      obtain ⟨k, ⟨_, _, _, _, r, hr, _⟩, _⟩ := hp p (no p LR)
      exact ⟨p, rfl, R.lt hr⟩
     ·intro T' σ' u ts hr hb hd
      refine q T' σ' u ⟨ts.tr, ts.ext, f3.trans ts.fr⟩ hb hd (.inr (.inr ⟨?_, hr⟩))
      rw [vK] at e ⊢
      cases L with
      | nil => exact absurd rfl e
      | cons => rw [List.length_cons, List.length_cons]; lia
end
end
section
section
theorem HK {x : Nat} (R : TR T σ) (hs : T.size < 1000000) (q : ∀ T' σ' (t : Nat), TS 1 T σ T' σ' -> T'.ak[t]? = some (.ae [.int 3, .str x, .int 0]) -> T'.ao = T.ao -> T'.aK = T.aK -> Q (.int t) σ') : cl (d + 2) 5 [.ref 4, .str x] σ Q := by
 have h4 := R.aO
 refine pM ?_
 cbv
 exact bT (row := .ae [.int 3, .str x, .int 0]) R hs (eW.of rfl (by decide) (by decide)) q
theorem lC {t : Nat} {qs : List Nat} (R : TR T σ) (hs : T.size < 1000000) (ht : iZ T t (qs.map fun (q : Nat) => V.int q)) (hl : qs.length < 63) (hp : ∀ p ∈ qs, ∃ k, cS T p k /\ eG k ≠ 4 /\ ∀ p' ∈ qs, (p' : Int) ≠ eG k)
  (q : ∀ T' σ' (u : Nat), TS 1 T σ T' σ' -> T'.ao = T.ao -> T'.aK = T.aK -> Un T' u (sd (qs ++ [4])) -> Q (.int u) σ') : cl (d + 4) 16 [.ref 4, .int t] σ Q := by
 refine sm ?_
 cbv
 have p4 : cS T 4 1 := ⟨by decide, by decide, by decide, by decide, [.str 21], R.bN (t := 4) rfl, fun h => absurd h (by decide)⟩
 refine gF R hs rfl (.cons ht (.cons (qs := [4]) p4.gH .nil)) (by simp only [List.length_append, List.length_cons, List.length_nil]; lia) (fun p h => ?_) q
 rw [List.append_nil] at h ⊢
 rcases List.mem_append.mp h with h | h
 ·obtain ⟨k, a, b, c⟩ := hp p h
  refine ⟨k, a, fun p' h' => ?_⟩
  rcases List.mem_append.mp h' with h' | h'
  ·exact c p' h'
  ·rw [List.mem_singleton.mp h']; exact fun e => b e.symm
 ·rw [List.mem_singleton.mp h]
  exact ⟨1, p4, fun p' _ e => by have : eG 1 = -1 := rfl; lia⟩
theorem vN {t : Nat} {k : Int} (R : TR T σ) (hs : T.size < 1000000) (ht : cS T t k) (h6 : t ≠ 6) (h7 : t ≠ 7) (hk : (t : Int) ≠ eG k)
  (q : ∀ T' σ', TS 1 T σ T' σ' -> T'.ao = T.ao -> T'.aK = T.aK -> Q (.int t) σ') : cl (d + 4) 15 [.ref 4, .int t, .ae [.int 6, .int 7]] σ Q := by
 refine wQ ?_
 cbv
 refine c6.cv (fun _ : Unit => .int t) (.seq (.ae [.int t])) [.int t] [()] (fun dn => dn.map fun _ => .int t) (fun _ _ σ' => σ = σ') ?_ ?_ ?_
 ·cbv
  refine cJ R ht.gH ?_
  exact .cn rfl rfl rfl
 ·rintro dn x td _ hm rfl
  cbv
  refine bF (fun _ => ?_) (fun e => ?_)
  ·cbv
   exact ⟨rfl, .next hm (de ..) rfl⟩
  ·exact ((List.mem_cons.mp e).elim (fun e => h6 (Int.ofNat.inj (V.int.inj e))) fun e => h7 (Int.ofNat.inj (V.int.inj (List.mem_singleton.mp e)))).elim
 ·rintro _ rfl
  refine ⟨Nat.le_of_ble_eq_true rfl, ?_⟩
  cbv
  refine gF R.push hs (ba ay) (.cons (qs := [t]) ht.gH .nil) (Nat.lt_of_lt_of_le (Nat.lt_succ_self 1) (Nat.le_of_ble_eq_true rfl)) (fun p h => ?_) ?_
  ·rw [List.append_nil] at h ⊢
   rw [List.mem_singleton.mp h]
   exact ⟨k, ht, fun p' h' => by rw [List.mem_singleton.mp h']; exact hk⟩
  ·intro T' σ' u ts hb hd hu
   have e1 : sd ([t] ++ []) = [(t : Int)] := by
    show ([(t : Int)]).mergeSort _ = _
    exact List.mergeSort_singleton _
   rw [e1] at hu
   have : u = t := by
    rcases hu with ⟨h, _⟩ | h | ⟨h, _⟩
    ·cases h
    ·exact (Int.ofNat.inj (List.cons.inj h).1).symm
    ·exact absurd h (Nat.not_succ_le_self 1)
   subst this
   exact q T' σ' ⟨ts.tr, ts.ext, Fr.push.trans ts.fr⟩ hb hd
theorem aP {x : Nat} {b : Int} {e : V} (R : TR T σ) (hs : T.size < 999999) (hb : b < T.ak.length)
  (q : ∀ T' σ' (t : Nat), TS 2 T σ T' σ' -> T.ak.length <= t -> T'.ak[t]? = some (.ae [.int 10, .int T.ao.length]) -> T'.ao = T.ao ++ [.int b] -> T'.aK = T.aK -> Q (.int t) σ') : cl (d + 2) 6 [.ref 4, .str x, .int b, e] σ Q := by
 have h4 := R.aO
 have h8 := R.ao
 have h9 := R.bk
 have Jm := R.names
 have l1 := R.IH
 have l2 := R.IG
 unfold cN.size at hs
 refine sb ?_
 cbv
 refine b3 h8 ?_
 cbv
 refine cw h8 (by lia) ?_
 have NM := (au (o := .list (T.ao ++ [.int b])) (show 8 ≠ 4 by decide)).trans h4
 have RN := (au (o := .list (T.ao ++ [.int b])) (show 8 ≠ 9 by decide)).trans h9
 cbv
 refine cw RN (by lia) ?_
 have PZ := (au (o := .list (T.bk ++ [e])) (show 9 ≠ 4 by decide)).trans NM
 have Mw := (au (o := .list (T.bk ++ [e])) (show 9 ≠ 10 by decide)).trans ((au (o := .list (T.ao ++ [.int b])) (show 8 ≠ 10 by decide)).trans Jm)
 cbv
 refine cw Mw (by lia) ?_
 have UM := (au (o := .list (T.names ++ [.str x])) (show 10 ≠ 4 by decide)).trans PZ
 have z : ∀ {n : Nat} {o : aN}, σ[n]? = some o -> n < 8 -> (((σ.set 8 (aN.list (T.ao ++ [V.int b]))).set 9 (aN.list (T.bk ++ [e]))).set 10 (aN.list (T.names ++ [V.str x])))[n]? = some o := fun h a => by
  rw [au (by lia), au (by lia), au (by lia)]; exact h
 have f1 : Fr σ (((σ.set 8 (aN.list (T.ao ++ [V.int b]))).set 9 (aN.list (T.bk ++ [e]))).set 10 (aN.list (T.names ++ [V.str x]))) := (Fr.set (by decide)).trans ((Fr.set (by decide)).trans (Fr.set (by decide)))
 have R1 : TR { T with ao := T.ao ++ [.int b], bk := T.bk ++ [e], names := T.names ++ [.str x] } (((σ.set 8 (aN.list (T.ao ++ [V.int b]))).set 9 (aN.list (T.bk ++ [e]))).set 10 (aN.list (T.names ++ [V.str x]))) :=
  ⟨UM, z R.ak (by decide), z R.ib (by decide), z R.aK (by decide), by rw [au (by decide), au (by decide)]; exact aE h8, by rw [au (by decide)]; exact aE RN, aE Mw, R.first,
   by show (T.bk ++ [e]).length = (T.ao ++ [V.int b]).length; rw [List.length_append, List.length_append, l1]; rfl, by show (T.names ++ [V.str x]).length = (T.ao ++ [V.int b]).length; rw [List.length_append, List.length_append, l2]; rfl, R.nodup, R.a5,
   fun t cq h => by obtain ⟨n, c, a1, a2, a3⟩ := R.rM t cq h; exact ⟨n, c, a1, by show (T.ao ++ [V.int b])[n]? = _; rw [List.getElem?_append_left (dX a2)]; exact a2, a3⟩, R.y7⟩
 cbv
 have Pp : (T.ao ++ [V.int b])[T.ao.length]? = some (.int b) := by rw [List.getElem?_append_right (Nat.le_refl _), Nat.sub_self]; rfl
 refine bT (row := .ae [.int 10, .int T.ao.length]) R1 (by show T.ak.length + (T.ao ++ [V.int b]).length + T.aK.length < _; rw [List.length_append]; show T.ak.length + (T.ao.length + 1) + _ < _; lia) ⟨rfl, fun cq e => ?_, fun ps e => nomatch e⟩ ?_
 ·cases e
  exact ⟨_, b, rfl, Pp, hb⟩
 ·intro T' σ' t ts hr J2 hd
  refine q T' σ' t ⟨ts.tr, ⟨ts.ext.ak, ts.ext.aK, by rw [J2]; exact List.prefix_append _ _, ?_⟩, f1.trans ts.fr⟩ (Nat.le_of_not_lt fun fP => ?_) hr J2 hd
  ·have := ts.ext.size
   unfold cN.size at this ⊢
   simp only [List.length_append, List.length_cons, List.length_nil] at this
   lia
  ·have h1 := ts.ext.row (List.getElem?_eq_getElem fP)
   rw [hr] at h1
   obtain ⟨n, c, a1, a2, _⟩ := R.rM t (.int T.ao.length) ((List.getElem?_eq_getElem fP).trans h1.symm)
   have a1 := Int.ofNat.inj (V.int.inj a1)
   have := (dX a2)
   lia
end
end
section
section
structure aV (σ σ' : ag) : Prop where
 len : σ.length <= σ'.length
 old : ∀ (a : Nat) o, σ[a]? = some o -> σ'[a]? = some o
theorem aV.refl : aV σ σ := ⟨Nat.le_refl _, fun _ _ h => h⟩
theorem aV.trans (x : aV σ σ') (y : aV σ' cy) : aV σ cy := ⟨Nat.le_trans x.len y.len, fun a o h => y.old a o (x.old a o h)⟩
theorem aV.push {o : aN} : aV σ (σ ++ [o]) := ⟨by rw [List.length_append]; lia, fun _ _ h => aH h⟩
theorem aV.fr (x : aV σ σ') : Fr σ σ' := ⟨x.len, fun a o h _ => x.old a o h⟩
theorem TR.keep (R : TR T σ) (x : aV σ σ') : TR T σ' := R.fr fun a o h _ => x.old a o h
structure Ob (σ : ag) (n k : Nat) (fs : List (Nat × V)) (σ' : ag) : Prop where
 keep : aV σ σ'
 obj : σ'[n]? = some (.aF k fs)
 new : σ.length <= n
theorem sa {n k a : Nat} {fs : List (Nat × V)} {v : V} (h : σ[n]? = some (.aF k fs)) (hl : fs.length < 100) : Hi n a v σ (σ.set n (.aF k (oJ fs a v))) := .mk h hl
theorem Ob.set {n : Nat} {fs RT : List (Nat × V)} (O : Ob σ n k fs σ') : Ob σ n k RT (σ'.set n (.aF k RT)) :=
 ⟨⟨by rw [List.length_set]; exact O.keep.len, fun a o h => by rw [au fun e => ?_]; exact O.keep.old a o h; have := (dX h); have := O.new; lia⟩, aE O.obj, O.new⟩
theorem Ob.push {n : Nat} {fs : List (Nat × V)} {o : aN} (O : Ob σ n k fs σ') : Ob σ n k fs (σ' ++ [o]) := ⟨O.keep.trans .push, aH O.obj, O.new⟩
theorem Ob.OW : Ob σ σ.length k [] (σ ++ [.aF k []]) := ⟨.push, ay, Nat.le_refl _⟩
theorem kP : ∀ {fs : List (Nat × V)} {a : Nat} {v : V}, fs.lookup a = none -> oJ fs a v = fs ++ [(a, v)]
 | [], _, _, _ => rfl
 | (b, x) :: fs, a, v, h => by
  rw [List.lookup_cons] at h
  by_cases e : a = b
  ·rw [e, beq_self_eq_true] at h; cases h
  ·rw [beq_false_of_ne e] at h
   show (if b = a then _ else _) = _
   rw [if_neg fun h => e h.symm, kP h]; rfl
theorem ct {n a : Nat} {fs : List (Nat × V)} {v : V} {F : ag -> Prop} (O : Ob σ n k fs σ') (hl : Nat.ble (fs.length + 1) 100 = true) (hn : fs.lookup a = none)
  (q : ∀ ah, Ob σ n k (fs ++ [(a, v)]) ah -> F ah) : JL n a v σ' F :=
 jt (sa O.obj (Nat.le_of_ble_eq_true hl)) (q _ (by rw [kP hn]; exact O.set))
theorem l8 {n a : Nat} {fs : List (Nat × V)} {o : aN} {F : ag -> Prop} (O : Ob σ n k fs σ') (hl : Nat.ble (fs.length + 1) 100 = true) (hn : fs.lookup a = none)
  (q : ∀ ah, Ob σ n k (fs ++ [(a, .ref σ'.length)]) ah -> ah.length = σ'.length + 1 -> ah[σ'.length]? = some o -> F ah) : JL n a (.ref σ'.length) (σ' ++ [o]) F :=
 jt (sa O.push.obj (Nat.le_of_ble_eq_true hl)) (q _ (by rw [kP hn]; exact O.push.set) (by rw [List.length_set, List.length_append]; rfl) (by rw [au fun e => ?_]; exact ay; have := (dX O.obj); lia))
noncomputable def fL (DK : Nat) (kd nm : V) (body : V) (a b : Nat) : List (Nat × V) := [(27, .int DK), (28, kd), (29, nm), (30, .ae []), (31, body), (32, .ae []), (33, .int (-1)), (34, .int 0), (35, .bool false), (36, .ref a), (37, .ref b), (38, .int 0), (39, .int 0), (41, .str 40), (42, .int 0)]
theorem tZ {kd nm : V} (R : TR T σ) (hs : T.size < 1000000) (q : ∀ T' σ' a b, TS 1 T σ T' σ' -> T'.ao = T.ao -> T'.aK = T.aK ++ [.ref σ.length] -> σ'[σ.length]? = some (.aF 1 (fL T.aK.length kd nm (.int (-1)) a b)) -> Q (.ref σ.length) σ') : cl (d + 2) 7 [.ref 4, kd, nm] σ Q := by
 have h4 := R.aO
 unfold cN.size at hs
 refine uw ?_
 cbv
 cbv
 refine b3 R.aK ?_
 cbv
 refine sr ?_
 refine ct Ob.OW (by kernel_rfl) (by kernel_rfl) fun ah O => ?_
 refine ct O (by kernel_rfl) (by kernel_rfl) fun aA O => ?_
 refine ct O (by kernel_rfl) (by kernel_rfl) fun bc O => ?_
 refine ct O (by kernel_rfl) (by kernel_rfl) fun bg O => ?_
 refine ct O (by kernel_rfl) (by kernel_rfl) fun iy O => ?_
 refine ct O (by kernel_rfl) (by kernel_rfl) fun ix O => ?_
 refine ct O (by kernel_rfl) (by kernel_rfl) fun gA O => ?_
 refine ct O (by kernel_rfl) (by kernel_rfl) fun QQ O => ?_
 refine ct O (by kernel_rfl) (by kernel_rfl) fun Vi O => ?_
 refine l8 O (by kernel_rfl) (by kernel_rfl) fun Vh O _ _ => ?_
 refine l8 O (by kernel_rfl) (by kernel_rfl) fun Vg O _ _ => ?_
 refine ct O (by kernel_rfl) (by kernel_rfl) fun Vf O => ?_
 refine ct O (by kernel_rfl) (by kernel_rfl) fun Ve O => ?_
 refine ct O (by kernel_rfl) (by kernel_rfl) fun Vd O => ?_
 refine ct O (by kernel_rfl) (by kernel_rfl) fun ab O => ?_
 have R1 := R.keep O.keep
 have h4 := R1.aO
 have h7 := R1.aK
 cbv
 refine cw (l := T.aK) R1.aK (by lia) ?_
 cbv
 have hn : 10 < σ.length := (dX R.names)
 refine q { T with aK := T.aK ++ [.ref σ.length] } _ _ _ ⟨?_, ⟨List.prefix_refl _, List.prefix_append _ _, List.prefix_refl _, ?_⟩, O.keep.fr.trans (Fr.set (by decide))⟩ rfl rfl (by rw [au (by lia)]; exact O.obj)
 ·have z : ∀ {n : Nat} {o : aN}, ab[n]? = some o -> 7 ≠ n -> (ab.set 7 (.list (T.aK ++ [.ref σ.length])))[n]? = some o := fun h a => by rw [au a]; exact h
  exact { R1 with aO := z R1.aO (by decide), ak := z R1.ak (by decide), ib := z R1.ib (by decide), aK := aE R1.aK, ao := z R1.ao (by decide), bk := z R1.bk (by decide), names := z R1.names (by decide) }
 ·show T.ak.length + T.ao.length + (T.aK ++ [V.ref σ.length]).length <= T.ak.length + T.ao.length + T.aK.length + 1
  rw [List.length_append]; exact Nat.le_refl _
noncomputable def RV (t : Nat) (k : Int) : Int := if k = 1 then (match t with | 3 => 6 | 4 => 5 | 5 => 4 | 6 => 1 | 7 => 2 | 10 => 7 | _ => 0) else if k = 8 \/ k = 9 then 7 else if k = 3 then 1 else if k = 4 then 2 else 0
theorem oj {f : Int} (q : Q (.bool (decide (f = 4 \/ f = 5 \/ f = 6))) σ) : cl (d + 1) 22 [.int f] σ Q := by
 refine iK ?_
 cbv
 refine aj (fun e => ?_) (fun e => ?_)
 ·rw [decide_eq_true (Or.inl e)] at q; rw [decide_eq_true e]; exact q
 ·cbv
  refine aj (fun e2 => ?_) (fun e2 => ?_)
  ·rw [decide_eq_true (Or.inr (Or.inl e2))] at q; rw [decide_eq_true e2]; exact q
  ·cbv
   rw [decide_eq_decide.mpr (show (f = 4 \/ f = 5 \/ f = 6) <-> f = 6 by lia)] at q; exact q
end
end
section
section
variable {r : SL}
theorem sM {t : Nat} {k : Int} {r : List V} (R : TR T σ) (hr : T.ak[t]? = some (.ae (.int k :: r))) (hk : k = 8 \/ k = 9) (q : Q (.int 7) σ) : cl (d + 1) 21 [.ref 4, .int t] σ Q := by
 have h4 := R.aO
 refine jf ?_
 cbv
 refine aG (aI R hr) ?_
 rcases hk with rfl | rfl <;> (cbv; exact q)
theorem Fx {t : Nat} {f : Int} (R : TR T σ) (hr : t = 4 /\ f = 5 \/ t = 5 /\ f = 4) (q : Q (.int f) σ) : cl (d + 1) 21 [.ref 4, .int t] σ Q := by
 have h4 := R.aO
 refine jf ?_
 cbv
 rcases hr with ⟨rfl, rfl⟩ | ⟨rfl, rfl⟩
 ·refine aG (aI R (R.bN (t := 4) rfl)) ?_
  cbv; exact q
 ·refine aG (aI R (R.bN (t := 5) rfl)) ?_
  cbv; exact q
theorem gO {t : Nat} {k : Int} {r : List V} (R : TR T σ) (hr : T.ak[t]? = some (.ae (.int k :: r))) (hk : k = 10 \/ k = 14 \/ k = 15 \/ k = 17) (q : Q (.int 0) σ) : cl (d + 2) 21 [.ref 4, .int t] σ Q := by
 have h4 := R.aO
 have P2 : k ≠ 18 := by lia
 have h5 : k ≠ 5 := by lia
 have hw : eG k = -1 := by unfold eG; rw [if_neg (by lia), if_neg (by lia)]
 refine jf ?_
 cbv
 refine aG (aI R hr) ?_
 rcases hk with rfl | rfl | rfl | rfl <;> (cbv; refine tg P2 h5 ?_; rw [hw]; cbv; exact q)
theorem uU {t a b : Nat} {kb : Int} {ra rb : List V} (R : TR T σ) (hr : T.ak[t]? = some (.ae [.int 7, .ae [.int a, .int b]])) (ha : T.ak[a]? = some (.ae (.int 10 :: ra))) (hb : T.ak[b]? = some (.ae (.int kb :: rb)))
  (hk : kb = 10 \/ kb = 8) (UR : b ≠ 11) (q : Q (.int (if kb = 8 then 7 else 0)) σ) : cl (d + 4) 21 [.ref 4, .int t] σ Q := by
 have h4 := R.aO
 refine jf ?_
 cbv
 refine aG (aI R hr) ?_
 cbv
 refine oA ?_
 cbv
 refine .ae ?_
 cbv
 refine gO R ha (.inl rfl) ?_
 cbv
 rcases hk with rfl | rfl
 ·refine gO R hb (.inl rfl) ?_
  cbv
  exact q
 ·refine sM R hb (.inl rfl) ?_
  cbv
  refine bF (fun _ => ?_) (fun e => absurd (Int.ofNat.inj e) UR)
  cbv
  exact q
end
end
variable {dp : Int}
section
section
variable {c : Cl} {r : SL}
theorem dv {f : Int} (h : f = 0 \/ f = 7) (q : Q (.bool false) σ) : cl (d + 1) 22 [.int f] σ Q := by
 refine oj ?_
 rw [decide_eq_false (by lia)]; exact q
theorem ug {f : Int} (h : f = 4 \/ f = 5) (q : Q (.bool true) σ) : cl (d + 1) 22 [.int f] σ Q := by
 refine oj ?_
 rw [decide_eq_true (by lia)]; exact q
theorem i8 {t : Nat} {k : Int} {r : List V} (R : TR T σ) (h2 : 11 < t) (hr : T.ak[t]? = some (.ae (.int k :: r))) (hk : k = 8 \/ k = 9) (q : Q (.bool false) σ) : cl (d + 2) 31 [.ref 4, .int t, .int dp] σ Q := by
 have h4 := R.aO
 refine bu ?_
 refine .ae ?_
 cbv
 refine cJ R (.inr ⟨by lia, k, r, hr, .inr ⟨by lia, rfl⟩⟩) ?_
 cbv
 refine aG (aI R hr) ?_
 cbv
 refine aj (fun e => by lia) (fun _ => ?_)
 cbv
 refine aj (fun e => by lia) (fun _ => ?_)
 cbv
 refine sM R hr hk ?_
 cbv
 refine dv (.inr rfl) ?_
 cbv
 rcases hk with rfl | rfl <;> (cbv; exact q)
theorem n3 {t n : Nat} (R : TR T σ) (h2 : 11 < t) (hr : T.ak[t]? = some (.ae [.int 10, .int n])) (hb : T.ao[n]? = some (.int (-1))) (q : Q (.bool true) σ) : cl (d + 3) 31 [.ref 4, .int t, .int dp] σ Q := by
 have h4 := R.aO
 refine bu ?_
 refine .ae ?_
 cbv
 refine cJ R (.inr ⟨by lia, 10, _, hr, .inr ⟨by decide, rfl⟩⟩) ?_
 cbv
 refine aG (aI R hr) ?_
 cbv
 refine aj (fun e => by lia) (fun _ => ?_)
 cbv
 refine aj (fun e => by lia) (fun _ => ?_)
 cbv
 refine gO R hr (.inl rfl) ?_
 cbv
 refine dv (.inl rfl) ?_
 cbv
 refine aG (cD R.ao (fh hb)) ?_
 cbv
 exact q
theorem ez {t n b : Nat} {v : Bool} (R : TR T σ) (h2 : 11 < t) (hr : T.ak[t]? = some (.ae [.int 10, .int n])) (hb : T.ao[n]? = some (.int b)) (hd : dp <= 20)
  (h : ∀ Q', Q' (.bool v) σ -> cl (d + 2) 31 [.ref 4, .int b, .int (dp + 1)] σ Q') (q : Q (.bool v) σ) : cl (d + 3) 31 [.ref 4, .int t, .int dp] σ Q := by
 have h4 := R.aO
 refine bu ?_
 refine .ae ?_
 cbv
 refine cJ R (.inr ⟨by lia, 10, _, hr, .inr ⟨by decide, rfl⟩⟩) ?_
 cbv
 refine aG (aI R hr) ?_
 cbv
 refine aj (fun e => by lia) (fun _ => ?_)
 cbv
 refine aj (fun e => by lia) (fun _ => ?_)
 cbv
 refine gO R hr (.inl rfl) ?_
 cbv
 refine dv (.inl rfl) ?_
 cbv
 refine aG (cD R.ao (fh hb)) ?_
 cbv
 refine aj (fun e => by lia) (fun _ => ?_)
 cbv
 cbv
 refine h _ ?_
 cases v <;> (cbv; exact q)
theorem zp {t : Nat} {r : List V} (R : TR T σ) (h2 : 11 < t) (hr : T.ak[t]? = some (.ae (.int 15 :: r))) (q : Q (.bool true) σ) : cl (d + 3) 31 [.ref 4, .int t, .int dp] σ Q := by
 have h4 := R.aO
 refine bu ?_
 refine .ae ?_
 cbv
 refine cJ R (.inr ⟨by lia, 15, _, hr, .inr ⟨by decide, rfl⟩⟩) ?_
 cbv
 refine aG (aI R hr) ?_
 cbv
 refine aj (fun e => by lia) (fun _ => ?_)
 cbv
 refine aj (fun e => by lia) (fun _ => ?_)
 cbv
 refine gO R hr (.inr (.inr (.inl rfl))) ?_
 cbv
 refine dv (.inl rfl) ?_
 cbv
 exact q
theorem zo {t : Nat} {L : List Int} {z : Int} (R : TR T σ) (hp : iZ T t (L.map .int)) (hz : z ∈ L) (UN : z = 4 \/ z = 5) (hL : ∀ y ∈ L, y = z \/ ∃ (p : Nat) (r : List V), y = p /\ 11 < p /\ T.ak[p]? = some (.ae (.int 8 :: r)))
  (q : Q (.bool true) σ) : cl (d + 2) 31 [.ref 4, .int t, .int dp] σ Q := by
 have h4 := R.aO
 refine bu ?_
 refine cT.cv .int (.seq (.ae (L.map .int))) (L.map .int) L (fun i : E8 => [some (.ref 4), some (.int t), some (.int dp), i.a, i.b, i.c]) (fun _ td _ σ' => σ = σ' /\ z ∈ td) ?_ ?_ ?_
 ·cbv
  refine cJ R hp ?_
  refine .cn rfl (E8.p3 _ _ _) ?_
  exact ⟨rfl, hz⟩
 ·rintro dn y td i _ hm ⟨rfl, Rq⟩
  cbv
  rcases hL y (qy hm) with rfl | ⟨p, r, rfl, h2, hr⟩
  ·have hn : ∃ n : Nat, y = n /\ (n = 4 \/ n = 5) := by
    rcases UN with rfl | rfl
    ·exact ⟨4, rfl, .inl rfl⟩
    ·exact ⟨5, rfl, .inr rfl⟩
   obtain ⟨n, rfl, hn⟩ := hn
   have hf : ∃ (f : Int) (w : V), (n = 4 /\ f = 5 \/ n = 5 /\ f = 4) /\ (f = 4 \/ f = 5) /\ T.ak[n]? = some w := by
    rcases hn with rfl | rfl
    ·exact ⟨5, _, .inl ⟨rfl, rfl⟩, .inr rfl, R.bN (t := 4) rfl⟩
    ·exact ⟨4, _, .inr ⟨rfl, rfl⟩, .inl rfl, R.bN (t := 5) rfl⟩
   obtain ⟨f, w, hf, Mc, hw⟩ := hf
   refine aG (aI R hw) ?_
   cbv
   refine aj (fun e => by lia) (fun _ => ?_)
   cbv
   refine aj (fun e => by lia) (fun _ => ?_)
   cbv
   refine Fx R hf ?_
   cbv
   refine ug Mc ?_
   cbv
   exact q
  ·refine aG (aI R hr) ?_
   cbv
   refine aj (fun e => by lia) (fun _ => ?_)
   cbv
   refine aj (fun e => by lia) (fun _ => ?_)
   cbv
   refine sM R hr (.inl rfl) ?_
   cbv
   refine dv (.inr rfl) ?_
   cbv
   refine ⟨rfl, .next hm (E8.p3 _ _ _) ?_⟩
   exact ⟨rfl, (List.mem_cons.mp Rq).elim (fun e => by lia) id⟩
 ·exact fun _ _ h => nomatch h.2
theorem Di {n : Nat} {l : List V} {bs : List Bool} (h : σ[n]? = some (.list l)) (ht : dq l = some bs) (q : Q (.bool (bs.all id)) σ) : Gi .all n σ Q := .mk (.all h ht) q
theorem Dg {n : Nat} {l : List V} {bs : List Bool} (h : σ[n]? = some (.list l)) (ht : dq l = some bs) (q : Q (.bool (bs.any id)) σ) : Gi .any n σ Q := .mk (.any h ht) q
theorem tR {t a b : Nat} {kb : Int} {ra rb : List V} {v : Bool} (R : TR T σ) (h2 : 11 < t) (hr : T.ak[t]? = some (.ae [.int 7, .ae [.int a, .int b]])) (ha : T.ak[a]? = some (.ae [.int 10, .int j])) (Um : T.ao[j]? = some (.int (-1))) (Uj : 11 < a) (hb : T.ak[b]? = some (.ae (.int kb :: rb)))
  (hk : kb = 10 \/ kb = 8) (VB : 11 < b) (hv : kb = 8 -> v = false) (h : kb = 10 -> ∀ Q', Q' (.bool v) σ -> cl (d + 4) 31 [.ref 4, .int b, .int 1] σ Q') (q : ∀ σ', aV σ σ' -> Q (.bool v) σ') : cl (d + 6) 31 [.ref 4, .int t, .int 0] σ Q := by
 have h4 := R.aO
 refine bu ?_
 refine .ae ?_
 cbv
 refine cJ R (.inr ⟨by lia, 7, _, hr, .inr ⟨by decide, rfl⟩⟩) ?_
 cbv
 refine aG (aI R hr) ?_
 cbv
 refine aj (fun e => by lia) (fun _ => ?_)
 cbv
 refine aj (fun e => by lia) (fun _ => ?_)
 cbv
 refine uU R hr ha hb hk (by lia) ?_
 cbv
 refine dv (by split <;> simp) ?_
 cbv
 refine hH ?_
 cbv
 refine aG (aI R hr) ?_
 cbv
 refine aj (fun e => ?_) (fun _ => ?_)
 ·simp only [List.mem_cons, V.int.injEq, List.not_mem_nil, or_false] at e; lia
 cbv
 refine uU R hr ha hb hk (by lia) ?_
 cbv
 rcases hk with rfl | rfl
 ·cbv
  refine c6.cv (fun c : Bool => .int (cond c a b : Nat)) (.seq (.ae [.int a, .int b])) [.int a, .int b] [true, false] (fun dn => dn.map fun c => .bool (cond c true v)) (fun _ _ σ' => σ = σ') ?_ ?_ ?_
  ·cbv
   exact .cn rfl rfl rfl
  ·rintro dn c td _ hm rfl
   cases c
   ·cbv
    cbv
    refine h rfl _ ?_
    exact ⟨rfl, .next hm (de (fun c : Bool => V.bool (cond c true v)) dn false) rfl⟩
   ·cbv
    cbv
    refine n3 R Uj ha Um ?_
    exact ⟨rfl, .next hm (de (fun c : Bool => V.bool (cond c true v)) dn true) rfl⟩
  ·rintro _ rfl
   refine ⟨Nat.le_of_ble_eq_true rfl, ?_⟩
   refine Di (bs := [true, v]) ay rfl ?_
   have e : ([true, v].all id) = v := by cases v <;> rfl
   rw [e]
   cases v <;> (cbv; exact q _ .push)
 ·cbv
  rw [hv rfl] at q
  exact q _ .refl
end
end
section
section
variable {r : SL}
inductive l7 : V -> List Nat -> Prop
 | rM {p : Nat} : l7 (.ae [.int 10, .int p]) []
 | str {x z : V} : l7 (.ae [.int 3, x, z]) []
 | IC {a b : Nat} : l7 (.ae [.int 7, .ae [.int a, .int b]]) [a, b]
 | G8 {x z w : V} {b : Nat} : l7 (.ae [.int 8, .ae [.ae [x, .int b, z, w]], .ae [], .ae [], .ae [], .ae [], .int 0]) [b]
noncomputable abbrev dt (l : List Nat) : List V := l.map fun (n : Nat) => V.int n
theorem gU {a b : Nat} {x y : List V} (ha : σ[a]? = some (.list x)) (hb : σ[b]? = some (.list y)) (hl : x.length + y.length <= 1000000) : Oi a σ .add (.ref b) (.ref σ.length) (σ ++ [.list (x ++ y)]) := .uc ha hb hl
theorem yx (q : Q (.ref σ.length) (σ ++ [.list []])) : cl (d + 1) 23 [.ae []] σ Q := by
 refine pU ?_
 cbv
 exact q
theorem q4 {row : V} {ks : List Nat} (h : l7 row ks) (q : Q (.ae []) σ) : cl (d + 1) 26 [row] σ Q := by
 refine r7 ?_
 cases h <;> (cbv; exact q)
set_option tactic.hygienic true in
theorem EW {row : V} {ks : List Nat} (h : l7 row ks) (q : ∀ n σ', aV σ σ' -> σ.length <= n -> σ'[n]? = some (.list (dt ks)) -> Q (.ref n) σ') : cl (d + 3) 25 [row] σ Q := by
 refine uu ?_
 cases h
 ·cbv
  exact q _ _ .push (Nat.le_refl _) ay
 ·cbv
  exact q _ _ .push (Nat.le_refl _) ay
 ·rename_i a b
  cbv
  refine c6.cv id (.seq (.ae [.int a, .int b])) [.int a, .int b] [.int a, .int b] id (fun _ _ σ' => σ = σ') ?_ ?_ ?_
  ·cbv
   exact .cn rfl rfl rfl
  ·rintro dn x td _ hm rfl
   cbv
   exact ⟨rfl, .next hm rfl rfl⟩
  ·rintro _ rfl
   exact ⟨Nat.le_of_ble_eq_true rfl, q _ _ .push (Nat.le_refl _) ay⟩
 ·rename_i x z w b
  cbv
  refine oz ?_
  refine c6.cv (fun _ : Unit => .ae [x, .int b, z, w]) (.seq (.ae [.ae [x, .int b, z, w]])) [.ae [x, .int b, z, w]] [()] (fun dn => dn.map fun _ => .int b) (fun _ _ σ' => σ = σ') ?_ ?_ ?_
  ·cbv
   exact .cn rfl rfl rfl
  ·rintro dn y td _ hm rfl
   cbv
   exact ⟨rfl, .next hm (de ..) rfl⟩
  ·rintro _ rfl
   refine ⟨Nat.le_of_ble_eq_true rfl, ?_⟩
   refine .ae ?_
   cbv
   show WX _ _ _ _ _
   cbv
   refine yx ?_
   refine vk (gU (x := [.int b]) (y := []) (aH ay) ay (Nat.le_of_ble_eq_true rfl)) ?_
   cbv
   refine yx ?_
   refine vk (gU (x := [.int b]) (y := []) (aH ay) ay (Nat.le_of_ble_eq_true rfl)) ?_
   refine q _ _ (.trans .push (.trans .push (.trans .push (.trans .push .push)))) ?_ ay
   repeat rw [List.length_append]
   lia
theorem B9 {row : V} {ks : List Nat} (R : TR T σ) (h : l7 row ks) (q : ∀ n σ', aV σ σ' -> σ.length <= n -> σ'[n]? = some (.list (dt ks)) -> Q (.ref n) σ') : cl (d + 4) 27 [.ref 4, row] σ Q := by
 refine pT ?_
 cbv
 refine EW h fun n ab K hn hl => ?_
 refine .ae ?_
 cbv
 refine q4 h ?_
 show WX _ _ _ _ _
 cbv
 exact q n ab K hn hl
inductive nh (T : cN) : List Nat -> Nat -> Prop
 | nil : nh T [] 0
 | cons {g a b : Nat} {ks r : List Nat} {row : V} : T.ak[g]? = some row -> l7 row ks -> nh T ks a -> nh T r b -> nh T (r ++ [g]) (a + b + 1)
theorem nh.none {n : Nat} {w : List Nat} (h : nh T w n) (e : w = []) : n = 0 := by
 cases h with
 | nil => rfl
 | cons => simp at e
theorem nh.s7 {g n : Nat} {ks : List Nat} {row : V} (hr : T.ak[g]? = some row) (hk : l7 row ks) (h : nh T ks n) : nh T [g] (n + 1) := .cons (r := []) hr hk h .nil
theorem nh.Hd {a : List Nat} {n m : Nat} (x : nh T a n) {b : List Nat} (y : nh T b m) : nh T (a ++ b) (n + m) := by
 induction y with
 | nil => rw [List.append_nil]; exact x
 | cons hr hk h1 h2 _ ih =>
  rw [<- List.append_assoc]
  have := nh.cons hr hk h1 ih
  rw [show ∀ p q s : Nat, p + (q + s) + 1 = q + (p + s + 1) by lia] at this
  exact this
def JM (T : cN) (ks : List Nat) : Prop := ∀ g ∈ ks, ∃ row l, T.ak[g]? = some row /\ l7 row l
theorem uM {l : List Nat} {g : Nat} : (dt (l ++ [g])).getLast? = some (.int g) := by
 show (List.map _ (l ++ [g])).getLast? = _
 rw [List.map_append]; exact List.getLast?_concat
theorem Bq {n : Nat} {l : List V} {x : V} (h : σ[n]? = some (.list l)) (hl : l.getLast? = some x) (q : Q x (σ.set n (.list l.dropLast))) : Ar σ Q (.ref n) 1 [] := .H6 h hl q
theorem zP {n m : Nat} {l r : List V} (h : σ[n]? = some (.list l)) (hr : σ[m]? = some (.list r)) (eU : m ≠ n) (hl : l.length + r.length <= 1000000) (q : Q .none (σ.set n (.list (l ++ r)))) : Ar σ Q (.ref n) 2 [.ref m] := .iV h hr eU hl q
end
end
section
section
theorem aV.set {n : Nat} {o : aN} (x : aV σ σ') (h : σ.length <= n) : aV σ (σ'.set n o) :=
 ⟨by rw [List.length_set]; exact x.len, fun a p e => by rw [au fun h2 => ?_]; exact x.old a p e; have := (dX e); lia⟩
theorem nh.len {w : List Nat} {n : Nat} (h : nh T w n) : w.length <= n := by
 induction h with
 | nil => exact Nat.le_refl _
 | cons _ _ _ _ _ ih => rw [List.length_append, List.length_singleton]; lia
structure Oa where
 (ks w : List Nat) (cs : Nat) (x : Option V)
structure Vc (T : cN) (t t0 : Nat) (σ : ag) (m : Nat) (ks w : List Nat) (cs : Nat) (ab : ag) : Prop where
 le : cs <= m
 U6 : nh T w cs
 kp : aV σ ab
 j6 : ab[σ.length]? = some (.dict .int (gk ks))
 yk : ab[σ.length + 1]? = some (.list (dt w))
 pl : JM T ks
 Sg : (ks = [] /\ w = [t]) \/ t0 ∈ ks \/ t0 ∈ w
 MH : ks.length + cs < 64
set_option tactic.hygienic true in
theorem v7 {t t0 cost : Nat} (R : TR T σ) (hc : nh T [t] cost) (fP : cost < 60) (h0 : ∀ g row ks, T.ak[g]? = some row -> l7 row ks -> g = t -> t0 = t \/ t0 ∈ ks)
  (q : ∀ n σ' (L : List Int), aV σ σ' -> σ'[n]? = some (.list (L.map .int)) -> L.length < 64 -> (∀ z ∈ L, ∃ (g : Nat) (row : V) (l : List Nat), z = g /\ T.ak[g]? = some row /\ l7 row l) -> (t0 : Int) ∈ L -> Q (.ref n) σ') : cl (d + 5) 28 [.ref 4, .int t] σ Q := by
 refine wW ?_
 cbv
 refine lY.st (fun i : Oa => [some (.ref 4), some (.int t), some (.ref σ.length), some (.ref (σ.length + 1)), i.x]) (fun m i σ' => Vc T t t0 σ m i.ks i.w i.cs σ') cost (by lia) ?_ ?_
 ·rw [List.length_append]
  refine .mk (Oa.mk [] [t] cost none) ?_
  refine ⟨Nat.le_refl _, hc, .trans .push .push, aH ay, ?_, (fun _ h => nomatch h), .inl ⟨rfl, rfl⟩, by rw [List.length_nil]; lia⟩
  have := ay (σ := σ ++ [.dict .int []]) (p := .list [.int t])
  rw [List.length_append] at this
  exact this
 ·intro m i ab I
  obtain ⟨ks, w, cs, x⟩ := i
  have R1 := R.keep I.kp
  have h4 := R1.aO
  have DI : ab[σ.length + 1]? = some (.list (dt w)) := I.yk
  have hw : nh T w cs := I.U6
  have cQ : ks.length + cs < 64 := I.MH
  refine Gn (ma DI) ?_
  cases hw with
  | nil =>
   cbv
   refine qp I.j6 (by lia) ?_
   refine q _ _ _ (I.kp.trans .push) ay (by rw [List.length_mergeSort, List.length_map]; lia) (fun z hz => ?_) ?_
   ·obtain ⟨g, hg, rfl⟩ := List.mem_map.mp ((List.mergeSort_perm _ _).mem_iff.mp hz)
    exact (I.pl g hg).elim fun row h => h.elim fun l h => ⟨g, row, l, rfl, h.1, h.2⟩
   ·exact I.Sg.elim (fun h => nomatch h.2) fun h => h.elim (fun h => (List.mergeSort_perm _ _).mem_iff.mpr (List.mem_map.mpr ⟨t0, h, rfl⟩)) fun h => nomatch h
  | cons hr L9 ha hb =>
   rename_i g a b kd ew row
   have GP : (dt (ew ++ [g])).dropLast = dt ew := by
    show (List.map _ (ew ++ [g])).dropLast = _
    rw [List.map_append]; exact List.dropLast_concat
   refine iI (by cases ew <;> rfl) ?_
   have Ur : (gk ks).length < 1000000 := by unfold gk; rw [List.length_map]; lia
   have RA := hb.len
   have Ny := ha.len
   have VF : a + b + 1 <= m := I.le
   have NG : (ks = [] /\ ew ++ [g] = [t]) \/ t0 ∈ ks \/ t0 ∈ ew ++ [g] := I.Sg
   have eU : ¬ σ.length + 1 = σ.length := Nat.succ_ne_self _
   have k1 : (ab.set (σ.length + 1) (.list (dt ew)))[σ.length]? = _ := (au eU).trans I.j6
   have K1 : aV σ (ab.set (σ.length + 1) (.list (dt ew))) := I.kp.set (Nat.le_succ _)
   have w2 := aE (o := .list (dt ew)) DI
   refine ⟨a + b, by lia, ?_⟩
   refine eF DI rfl ?_
   refine Bq DI (uM (l := ew) (g := g)) ?_
   rw [GP]
   cbv
   cbv
   refine dD (.d9 (cK k1 rfl)) ?_
   by_cases hg : g ∈ ks
   ·have e : (bJ (gk ks) (.int g)).isSome = true := by rw [sG, if_pos ⟨g, hg, rfl⟩]; rfl
    rw [e]
    cbv
    refine .mk (Oa.mk ks ew b _) ?_
    refine ⟨Nat.le_add_left _ _, hb, K1, k1, w2, I.pl, .inr ?_, by show ks.length + b < 64; lia⟩
    exact NG.elim (fun h => by rw [h.1] at hg; cases hg) fun h => h.elim .inl fun h => (List.mem_append.mp h).elim .inr fun h => .inl (by rw [List.mem_singleton.mp h]; exact hg)
   ·have e : (bJ (gk ks) (.int g)).isSome = false := uL fun k hk e => hg (Int.ofNat.inj e ▸ hk)
    rw [e]
    cbv
    refine dI (cg k1 rfl Ur) ?_
    rw [Cv]
    have K2 : aV σ ((ab.set (σ.length + 1) (.list (dt ew))).set σ.length (.dict .int (gk (fk ks g)))) := K1.set (Nat.le_refl _)
    have R3 := R.keep K2
    have h4 := R3.aO
    have w3 := (au (o := .dict .int (gk (fk ks g))) (fun h => eU h.symm)).trans w2
    refine eF w3 rfl ?_
    cbv
    refine aG (aI R3 hr) ?_
    cbv
    refine B9 R3 L9 fun m bc K4 hm Ps => ?_
    cbv
    have w4 := K4.old _ _ w3
    have Ue := (dX w3)
    refine zP w4 Ps (by lia) (by unfold dt; rw [List.length_map, List.length_map]; lia) ?_
    rw [show dt ew ++ dt kd = dt (ew ++ kd) from List.map_append.symm]
    have Tf := eO [g] ks
    refine .mk (Oa.mk (fk ks g) (ew ++ kd) (a + b) _) ?_
    refine ⟨Nat.le_refl _, by rw [Nat.add_comm]; exact hb.Hd ha, (K2.trans K4).set (Nat.le_succ _), (au eU).trans (K4.old _ _ (aE k1)), aE w4, fun g' PC => ?_, .inr ?_, ?_⟩
    ·exact ((cR [g] ks g').mp PC).elim (I.pl g') fun h => by rw [List.mem_singleton.mp h]; exact ⟨row, kd, hr, L9⟩
    ·have nw : ∀ x, x = g -> x ∈ fk ks g := fun x h => (cR [g] ks x).mpr (.inr (List.mem_singleton.mpr h))
     refine NG.elim (fun h => ?_) fun h => h.elim (fun h => .inl ((cR [g] ks t0).mpr (.inl h))) fun h => (List.mem_append.mp h).elim (fun h => .inr (List.mem_append.mpr (.inl h))) fun h => .inl (nw _ (List.mem_singleton.mp h))
     have RK : g = t := by
      have := h.2
      cases ew with
      | nil => exact (List.cons.inj this).1
      | cons y ew => cases ew <;> cases this
     exact (h0 g row kd hr L9 RK).elim (fun e => .inl (nw _ (e.trans RK.symm))) fun e => .inr (List.mem_append.mpr (.inr e))
    ·show (fk ks g).length + (a + b) < 64
     rw [List.foldl_cons, List.foldl_nil, List.length_singleton] at Tf; lia
end
end
section
section
variable {r : SL}
theorem nN : ∀ {l : List V}, (∀ x ∈ l, x = .ae []) -> dq l = some (l.map fun _ => false)
 | [], _ => rfl
 | x :: l, h => by
  have e := h x (.head _)
  subst e
  show Option.map _ (dq l) = _
  rw [nN fun y hy => h y (.tail _ hy)]; rfl
theorem q6 : ∀ (l : List V), (l.map fun _ => false).any id = false
 | [] => rfl
 | _ :: l => q6 l
theorem uk : ∀ {l : List V}, (∀ x ∈ l, ∃ z : Int, x = .int z) -> ∃ xs, fW l = some xs /\ xs.length = l.length
 | [], _ => ⟨[], rfl, rfl⟩
 | x :: l, h => by
  obtain ⟨z, rfl⟩ := h x (.head _)
  obtain ⟨xs, e, hl⟩ := uk fun y hy => h y (.tail _ hy)
  exact ⟨z :: xs, by show Option.map _ (fW l) = _; rw [e]; rfl, congrArg (· + 1) hl⟩
theorem tE {n : Nat} {l : List V} {xs : List Int} (h : σ[n]? = some (.list l)) (hl : l.length < 64) (hx : fW l = some xs) (q : Q (.ref σ.length) (σ ++ [.list ((xs.mergeSort (fun a b => decide (a <= b))).map .int)])) : Gi .sorted n σ Q := .mk (.Gp h hl hx) q
theorem jw {t t0 cost : Nat} {p : V} (R : TR T σ) (hc : nh T [t] cost) (fP : cost < 60) (h0 : ∀ g row ks, T.ak[g]? = some row -> l7 row ks -> g = t -> t0 = t \/ t0 ∈ ks) (hp : T.ak[t0]? = some (.ae [.int 10, p]))
  (q : ∀ σ', aV σ σ' -> Q (.bool true) σ') : cl (d + 7) 30 [.ref 4, .int t] σ Q := by
 refine pV ?_
 cbv
 refine oE ?_
 cbv
 cbv
 refine v7 R hc fP h0 fun n ab L K hn hL sC TG => ?_
 cbv
 refine c6.cv .int (.seq (.ref n)) (L.map .int) L (fun dn => dn.map fun _ => .ae []) (fun _ _ σ' => aV ab σ') ?_ ?_ ?_
 ·cbv
  exact eL hn (.cn rfl rfl .refl)
 ·intro dn z td ah hz K2
  obtain ⟨g, row, l, rfl, hr, hk⟩ := sC z (qy hz)
  have R2 := R.keep (K.trans K2)
  have h4 := R2.aO
  cbv
  refine aG (aI R2 hr) ?_
  cbv
  refine q4 hk ?_
  exact ⟨ba (K2.old _ _ hn), .next hz (de ..) K2⟩
 ·intro ah K2
  refine ⟨by rw [List.length_map]; lia, ?_⟩
  refine Dg ay (nN fun x hx => (List.mem_map.mp hx).elim fun _ h => h.2.symm) ?_
  rw [q6]
  have K3 := K2.trans (.push (o := .list (L.map fun _ => .ae [])))
  have RI := K3.old _ _ hn
  have R3 := R.keep (K.trans K3)
  have h4 := R3.aO
  cbv
  refine c6.u0 .int (.seq (.ref n)) (L.map .int) L (fun dn td acc σ' => aV (ah ++ [.list (L.map fun _ => .ae [])]) σ' /\ ((t0 : Int) ∈ td \/ acc ≠ []) /\ (∀ x ∈ acc, ∃ z : Int, x = .int z) /\ acc.length <= dn.length) ?_ ?_ ?_
  ·cbv
   exact eL RI (.cn rfl ⟨.refl, .inl TG, (fun _ h => nomatch h), Nat.le_refl _⟩)
  ·intro dn z td acc bc hz J
   obtain ⟨g, row, l, rfl, hr, hk⟩ := sC z (qy hz)
   have R4 := R3.keep J.1
   have h4 := R4.aO
   cbv
   refine aG (aI R4 hr) ?_
   have p7 : (dn ++ [(g : Int)]).length = dn.length + 1 := List.length_append
   have skip : (g = t0 -> False) -> aV (ah ++ [.list (L.map fun _ => .ae [])]) bc /\ ((t0 : Int) ∈ td \/ acc ≠ []) /\ (∀ x ∈ acc, ∃ z : Int, x = .int z) /\ acc.length <= (dn ++ [(g : Int)]).length := fun hg =>
    ⟨J.1, J.2.1.imp (fun h => (List.mem_cons.mp h).elim (fun e => (hg (Int.ofNat.inj e.symm)).elim) id) id, J.2.2.1, p7 ▸ Nat.le_succ_of_le J.2.2.2⟩
   have st := ba (J.1.old _ _ RI)
   have ng : ∀ {r : List V} {k : Int}, T.ak[g]? = some (.ae (.int k :: r)) -> k ≠ 10 -> g = t0 -> False := fun hr hk e => by rw [e, hp] at hr; exact hk (V.int.inj (List.cons.inj (V.ae.inj (Option.some.inj hr))).1).symm
   cases hk with
   | rM =>
    cbv
    refine aG (aI R4 hr) ?_
    cbv
    exact ⟨st, .next hz ⟨J.1, .inr (fun h => nomatch (List.append_eq_nil_iff.mp h).2), fun x hx => (List.mem_append.mp hx).elim (J.2.2.1 x) fun h => ⟨_, List.mem_singleton.mp h⟩, by rw [p7, List.length_append]; exact Nat.succ_le_succ J.2.2.2⟩⟩
   | str => cbv; exact ⟨st, .next hz (skip (ng hr (by decide)))⟩
   | IC => cbv; exact ⟨st, .next hz (skip (ng hr (by decide)))⟩
   | G8 => cbv; exact ⟨st, .next hz (skip (ng hr (by decide)))⟩
  ·intro acc bc J
   have cQ := J.2.2.2
   obtain ⟨xs, Ts, LH⟩ := uk J.2.2.1
   refine ⟨by lia, ?_⟩
   refine tE ay (by lia) Ts ?_
   refine jJ ay ?_
   cbv
   have : 0 < ((xs.mergeSort (fun a b => decide (a <= b))).map V.int).length := by
    rw [List.length_map, List.length_mergeSort, LH]
    exact List.length_pos_iff.mpr (J.2.1.elim (fun h => nomatch h) id)
   exact JB Q (Int.ofNat_lt.mpr this) (q _ (K.trans (K3.trans (J.1.trans (.trans .push .push)))))
end
end
variable {n tr : Nat} {m : Int} {S' : cW}
section
structure cW where
 tr : Nat
 aS : List V
 dF : List (V × V)
 bw : List (V × V)
 a9 : Nat
 da : Nat
 az : List V
 aw : Bool
 cU : V
 dW : Int
noncomputable def dQ : List (Nat × V) := [(119, .ref 4), (120, .int 0), (122, .int 200), (124, .int 40), (125, .none)]
noncomputable def bj (n : Nat) (m : Int) (S : cW) : List (Nat × V) := [(128, .ref 13), (129, .int m), (130, .ref 15), (131, .ref (n + 2)), (132, .ref (n + 3)), (133, .ref S.tr), (134, .ref (n + 5)), (120, .int S.da), (135, .int S.a9), (136, .ref (n + 6)), (137, .bool S.aw), (138, S.cU), (139, .str 40), (39, .int S.dW)]
structure RR (T : cN) (n : Nat) (m : Int) (S : cW) (σ : ag) : Prop where
 aO : TR T σ
 cO : σ[n]? = some (.aF 3 (bj n m S))
 dF : σ[n + 2]? = some (.dict .ae S.dF)
 kn : σ[n + 3]? = some (.dict .ae S.bw)
 tr : σ[S.tr]? = some (.list S.aS)
 no : σ[n + 6]? = some (.aF 4 [(4, .ref (n + 7))])
 nr : σ[n + 7]? = some (.list S.az)
 cu : σ[13]? = some (.aF 2 dQ)
 eM : σ[15]? = some (.dict .int [(.int 2, .ref 22)])
 rule : σ[22]? = some (.aF 5 [])
 gX : n = 14 \/ 22 < n
 nC : S.tr = n + 4 \/ n + 7 < S.tr /\ 22 < S.tr
def Hj (n tr a : Nat) : Prop := a ≠ n /\ a ≠ n + 2 /\ a ≠ n + 3 /\ a ≠ n + 7 /\ a ≠ tr
structure AF (n tr : Nat) (σ σ' : ag) : Prop where
 len : σ.length <= σ'.length
 old : ∀ (a : Nat) o, σ[a]? = some o -> Hj n tr a -> σ'[a]? = some o
section
variable {Ov : Nat} {S : cW}
theorem gI {i j : Nat} (h : Nat.beq i j = false) : n + i ≠ n + j := fun e => by
 have e := Nat.add_left_cancel e
 rw [e] at h; exact absurd h (by rw [Nat.beq_refl]; exact Bool.noConfusion)
theorem RR.gt (R : RR T n m S σ) (i : Nat) : 13 < n + i := by rcases R.gX with h | h <;> lia
theorem RR.Ft {a : Nat} (R : RR T n m S σ) (i : Nat) (h : a = 13 \/ a = 15 \/ a = 22) (hi : i = 0 \/ 1 < i /\ i < 8) : a ≠ n + i := by rcases R.gX with h | h <;> lia
theorem RR.Hz (R : RR T n m S σ) {i : Nat} (h : i < 8) (h4 : i ≠ 4) : S.tr ≠ n + i := by rcases R.nC with h | h <;> lia
theorem RR.Ou (R : RR T n m S σ) {a : Nat} (h : a = 13 \/ a = 15 \/ a = 22) : S.tr ≠ a := by rcases R.nC with h | h <;> rcases R.gX with h | h <;> lia
theorem RR.HB (R : RR T n m S σ) : 10 < S.tr := by rcases R.nC with h | h <;> rcases R.gX with h | h <;> lia
theorem AF.refl : AF n tr σ σ := ⟨Nat.le_refl _, fun _ _ h _ => h⟩
theorem AF.trans (x : AF n tr σ σ') (y : AF n Ov σ' cy) (h : Ov = tr \/ σ.length <= Ov) : AF n tr σ cy :=
 ⟨Nat.le_trans x.len y.len, fun a o e f => y.old a o (x.old a o e f) ⟨f.1, f.2.1, f.2.2.1, f.2.2.2.1, by
  rcases h with h | h
  ·rw [h]; exact f.2.2.2.2
  ·have := (dX e); lia⟩⟩
theorem AF.set {a : Nat} {o : aN} (h : ¬Hj n tr a) : AF n tr σ (σ.set a o) :=
 ⟨by rw [List.length_set]; lia, fun b p e f => by rw [au (n := a) (m := b) fun q => h (by rw [q]; exact f)]; exact e⟩
theorem AF.push {o : aN} : AF n tr σ (σ ++ [o]) := ⟨by rw [List.length_append]; lia, fun _ _ h _ => aH h⟩
theorem aV.af (x : aV σ σ') : AF n tr σ σ' := ⟨x.len, fun a o h _ => x.old a o h⟩
theorem RR.keep (R : RR T n m S σ) (x : aV σ σ') : RR T n m S σ' :=
 {R with aO := R.aO.keep x, cO := x.old _ _ R.cO, dF := x.old _ _ R.dF, kn := x.old _ _ R.kn, tr := x.old _ _ R.tr, no := x.old _ _ R.no, nr := x.old _ _ R.nr, cu := x.old _ _ R.cu, eM := x.old _ _ R.eM, rule := x.old _ _ R.rule }
theorem RR.HO (R : RR T n m S σ) (h : S'.dF = S.dF /\ S'.bw = S.bw /\ S'.tr = S.tr /\ S'.aS = S.aS /\ S'.az = S.az) : RR T n m S' (σ.set n (.aF 3 (bj n m S'))) := by
 have z : ∀ {a : Nat} {o : aN}, σ[a]? = some o -> n ≠ a -> (σ.set n (.aF 3 (bj n m S')))[a]? = some o := fun h e => by rw [au e]; exact h
 obtain ⟨e1, e2, e3, e4, e5⟩ := h
 exact ⟨R.aO.set (Nat.lt_trans (by decide) (R.gt 0)), aE R.cO, by rw [e1]; exact z R.dF (gI (i := 0) rfl), by rw [e2]; exact z R.kn (gI (i := 0) rfl), by rw [e3, e4]; exact z R.tr (fun e => R.Hz (i := 0) (by decide) (by decide) e.symm), z R.no (gI (i := 0) rfl), by rw [e5]; exact z R.nr (gI (i := 0) rfl),
  z R.cu (fun e => R.Ft 0 (.inl rfl) (.inl rfl) e.symm), z R.eM (fun e => R.Ft 0 (.inr (.inl rfl)) (.inl rfl) e.symm), z R.rule (fun e => R.Ft 0 (.inr (.inr rfl)) (.inl rfl) e.symm), R.gX, by rw [e3]; exact R.nC⟩
set_option tactic.hygienic true in
theorem RR.g7 {i : Nat} {o : aN} (R : RR T n m S σ) (hi : 1 < i /\ i < 8 /\ i ≠ 4 /\ i ≠ 6) (h : S'.tr = S.tr /\ S'.aS = S.aS /\ bj n m S' = bj n m S)
  (h2 : if i = 2 then o = .dict .ae S'.dF else S'.dF = S.dF) (h3 : if i = 3 then o = .dict .ae S'.bw else S'.bw = S.bw) (h7 : if i = 7 then o = .list S'.az else S'.az = S.az) : RR T n m S' (σ.set (n + i) o) := by
 have z : ∀ {a : Nat} {p : aN}, σ[a]? = some p -> n + i ≠ a -> (σ.set (n + i) o)[a]? = some p := fun h e => by rw [au e]; exact h
 obtain ⟨e1, e2, e3⟩ := h
 obtain ⟨i1, i2, i3, i4⟩ := hi
 refine ⟨R.aO.set (Nat.lt_trans (by decide) (R.gt i)), by rw [e3]; exact z R.cO (by lia), ?_, ?_, by rw [e1, e2]; exact z R.tr (fun e => R.Hz i2 i3 e.symm), z R.no (by lia), ?_,
  z R.cu (fun e => R.Ft i (.inl rfl) (.inr ⟨i1, i2⟩) e.symm), z R.eM (fun e => R.Ft i (.inr (.inl rfl)) (.inr ⟨i1, i2⟩) e.symm), z R.rule (fun e => R.Ft i (.inr (.inr rfl)) (.inr ⟨i1, i2⟩) e.symm), R.gX, by rw [e1]; exact R.nC⟩
 ·split at h2
  ·rename_i e; subst e; rw [<- h2]; exact aE R.dF
  ·rw [h2]; exact z R.dF (by lia)
 ·split at h3
  ·rename_i e; subst e; rw [<- h3]; exact aE R.kn
  ·rw [h3]; exact z R.kn (by lia)
 ·split at h7
  ·rename_i e; subst e; rw [<- h7]; exact aE R.nr
  ·rw [h7]; exact z R.nr (by lia)
theorem RR.tH {l : List V} (R : RR T n m S σ) : RR T n m { S with aS := l } (σ.set S.tr (.list l)) := by
 have z : ∀ {a : Nat} {p : aN}, σ[a]? = some p -> S.tr ≠ a -> (σ.set S.tr (.list l))[a]? = some p := fun h e => by rw [au e]; exact h
 exact ⟨R.aO.set R.HB, z R.cO (R.Hz (i := 0) (by decide) (by decide)), z R.dF (R.Hz (by decide) (by decide)), z R.kn (R.Hz (by decide) (by decide)), aE R.tr, z R.no (R.Hz (by decide) (by decide)), z R.nr (R.Hz (by decide) (by decide)),
  z R.cu (R.Ou (.inl rfl)), z R.eM (R.Ou (.inr (.inl rfl))), z R.rule (R.Ou (.inr (.inr rfl))), R.gX, R.nC⟩
theorem RR.BK (R : RR T n m S σ) : RR T n m { S with tr := σ.length, aS := [] } ((σ ++ [aN.list []]).set n (.aF 3 (bj n m { S with tr := σ.length, aS := [] }))) := by
 have R1 := R.keep (.push (o := .list []))
 have hn : n < σ.length := (dX R.cO)
 have h7 : n + 7 < σ.length := (dX R.nr)
 have jn : 22 < σ.length := (dX R.rule)
 have z : ∀ {a : Nat} {o p : aN}, (σ ++ [aN.list []])[a]? = some o -> n ≠ a -> ((σ ++ [aN.list []]).set n p)[a]? = some o := fun h e => by rw [au e]; exact h
 exact ⟨R1.aO.set (Nat.lt_trans (by decide) (R.gt 0)), aE R1.cO, z R1.dF (gI (i := 0) rfl), z R1.kn (gI (i := 0) rfl), z ay (Nat.ne_of_lt hn), z R1.no (gI (i := 0) rfl), z R1.nr (gI (i := 0) rfl),
  z R1.cu (fun e => R.Ft 0 (.inl rfl) (.inl rfl) e.symm), z R1.eM (fun e => R.Ft 0 (.inr (.inl rfl)) (.inl rfl) e.symm), z R1.rule (fun e => R.Ft 0 (.inr (.inr rfl)) (.inl rfl) e.symm), R.gX, .inr ⟨h7, jn⟩⟩
end
end
variable {s : Nat} {a b : Int} {ra rb : List V}
section
noncomputable def J6 : List Int := [6, 7, 10, 14, 15, 16, 17, 18, 19]
noncomputable def Dz : List Int := [10, 14, 15, 16, 17, 18, 19]
section
variable {S : cW}
theorem gp {z : Int} {l : List Int} : V.int z ∈ l.map V.int <-> z ∈ l := by
 rw [List.mem_map]
 exact ⟨fun ⟨_, h, e⟩ => V.int.inj e ▸ h, fun h => ⟨z, h, rfl⟩⟩
theorem lX {x y : V} (h : cl d 48 [.ref n, x, y] σ Q) : cl (d + 1) 39 [.ref n, x, y] σ Q := by
 refine wZ ?_
 cbv
 exact h
theorem ED {c : V} (R : RR T n m S σ) (hl : S.az.length < 1000000) (q : ∀ σ', RR T n m { S with az := if S.aw then S.az ++ [.ae [c, .int S.dW]] else S.az } σ' -> AF n S.tr σ σ' -> Q .none σ') : cl (d + 2) 40 [.ref n, c] σ Q := by
 have h := R.cO
 refine uD ?_
 cbv
 refine jV (fun ht => ?_) (fun ht => ?_)
 ·rw [if_pos ht] at q
  have h6 := R.no
  cbv
  refine sq ?_
  have h7 := R.nr
  cbv
  refine cw h7 hl ?_
  exact q _ (R.g7 (i := 7) (by decide) ⟨rfl, rfl, rfl⟩ rfl rfl rfl) (.set fun h => h.2.2.2.1 rfl)
 ·rw [if_neg (by rw [ht]; decide)] at q
  exact q σ R .refl
theorem yi (R : RR T n m S σ) (q : Q (.ae [.int S.az.length, .int S.aS.length]) σ) : cl (d + 1) 42 [.ref n] σ Q := by
 have h := R.cO
 have h6 := R.no
 refine uE ?_
 cbv
 refine b3 R.nr ?_
 cbv
 refine b3 R.tr ?_
 cbv
 exact q
def vA (a : Int) (r : List V) : Prop := a ∈ ([2, 3, 4, 5, 8] : List Int) -> ∃ z, (V.int a :: r).getLast? = some (.int z) /\ z ≠ 1
theorem uh (R : TR T σ) (ht : T.ak[t]? = some (.ae (.int a :: ra))) (hl : vA a ra) (q : Q (.bool false) σ) : cl (d + 1) 18 [.ref 4, .int t] σ Q := by
 have h4 := R.aO
 refine uA ?_
 cbv
 refine aG (aI R ht) ?_
 cbv
 refine aj (fun e => ?_) (fun e => ?_)
 ·obtain ⟨z, hz, zD⟩ := hl (gp.mp e)
  cbv
  refine ir (tT hz) ?_
  cbv
  exact xC Q zD q
 ·exact xC Q e q
theorem g0 (R : RR T n m S σ) (ht : T.ak[t]? = some (.ae (.int a :: ra))) (hl : vA a ra) (q : Q (.int t) σ) : cl (d + 3) 47 [.ref 13, .int t] σ Q := by
 have h := R.cu
 have h4 := R.aO.aO
 refine wV ?_
 cbv
 refine pY ?_
 cbv
 refine pS ?_
 cbv
 refine aG (aI R.aO ht) ?_
 cbv
 refine aj (fun e => ?_) (fun _ => ?_)
 ·cbv
  refine oq ?_
  cbv
  refine uh R.aO ht hl ?_
  cbv
  exact q
 ·cbv
  exact q
theorem Bb (R : RR T n m S σ) (q : Q (.bool (S.aw && decide (m = 1))) σ) : cl (d + 1) 51 [.ref n] σ Q := by
 have h := R.cO
 refine Cd ?_
 cbv
 refine jV (fun ht => ?_) (fun ht => ?_)
 ·rw [ht, Bool.true_and] at q; cbv; exact q
 ·rw [ht, Bool.false_and, <- ht] at q; exact q
structure j4 (T : cN) (s t : Nat) (a b : Int) (ra rb : List V) : Prop where
 hs : T.ak[s]? = some (.ae (.int a :: ra))
 ht : T.ak[t]? = some (.ae (.int b :: rb))
 s0 : s ∉ [0, 1, 2, 13]
 t0 : t ∉ [0, 1, 13]
 t2 : t = 2 -> a ∈ J6
 op : a ∈ J6 \/ b ∈ J6
theorem kE {x y : Nat} {l : List Nat} (h : x ∉ l) (hy : y ∈ l) : ¬(x : Int) = y := fun e => h (by rw [Int.ofNat.inj e]; exact hy)
theorem D4 (R : RR T n m S σ) (hs : T.ak[s]? = some (.ae (.int a :: ra))) (s0 : s ∉ [0, 1, 2, 13]) (t0 : t ∉ [0, 1, 13]) (t2 : t = 2 -> a ∈ J6) (q : Q (.int (-1)) σ) : cl (d + 1) 54 [.ref n, .int s, .int t] σ Q := by
 have h := R.cO
 have hh := R.cu
 have h4 := R.aO.aO
 refine mR ?_
 cbv
 refine aj (fun e => absurd e (kE t0 (y := 0) (by decide))) (fun _ => ?_)
 cbv
 refine aj (fun e => absurd e (kE t0 (y := 13) (by decide))) (fun _ => ?_)
 cbv
 refine aj (fun e => absurd e (kE s0 (y := 2) (by decide))) (fun _ => ?_)
 cbv
 refine aj (fun e => absurd e (kE s0 (y := 13) (by decide))) (fun _ => ?_)
 cbv
 refine aj (fun e => absurd e (kE s0 (y := 0) (by decide))) (fun _ => ?_)
 rw [decide_eq_false (show ¬ (s : Int) = 0 from kE s0 (y := 0) (by decide))]
 cbv
 refine aj (fun e => absurd e (kE t0 (y := 1) (by decide))) (fun _ => ?_)
 cbv
 refine aj (fun e => absurd e (kE s0 (y := 0) (by decide))) (fun _ => ?_)
 cbv
 refine aj (fun e => absurd e (kE s0 (y := 1) (by decide))) (fun _ => ?_)
 cbv
 refine aj (fun e => ?_) (fun e => ?_)
 ·cbv
  refine aG (aI R.aO hs) ?_
  cbv
  refine bF (fun e2 => absurd (gp.mpr (t2 (Int.ofNat.inj e))) e2) (fun _ => ?_)
  cbv
  exact q
 ·rw [decide_eq_false e]
  cbv
  exact q
theorem qr (R : RR T n m S σ) (D : j4 T s t a b ra rb) (q : Q (.int (-1)) σ) : cl (d + 2) 53 [.ref n, .int s, .int t] σ Q := by
 have h := R.cO
 have hh := R.cu
 have h4 := R.aO.aO
 refine kJ ?_
 cbv
 refine D4 R D.hs D.s0 D.t0 D.t2 ?_
 cbv
 refine aG (aI R.aO D.hs) ?_
 cbv
 refine aG (aI R.aO D.ht) ?_
 cbv
 refine aj (fun e => ?_) (fun e => ?_)
 ·rw [decide_eq_true e]
  cbv
  exact q
 ·cbv
  have e2 := D.op.resolve_left fun h => e (gp.mpr h)
  refine aj (fun _ => ?_) (fun e => absurd (gp.mpr e2) e)
  cbv
  exact q
theorem xY (q7 : a = 7 \/ b = 7 -> Q (.int 1) σ) (q : ¬(a = 7 \/ b = 7) -> a ∈ Dz \/ b ∈ Dz -> Q (.int 2) σ) (Jh : a = 7 \/ b = 7 \/ a ∈ Dz \/ b ∈ Dz) : cl (d + 1) 56 [.int a, .int b] σ Q := by
 refine ur ?_
 cbv
 refine aj (fun e => ?_) (fun ea => ?_)
 ·rw [decide_eq_true e]
  cbv
  exact q7 (.inl e)
 ·cbv
  refine aj (fun e => ?_) (fun eb => ?_)
  ·cbv
   exact q7 (.inr e)
  ·have Jh := (Jh.resolve_left ea).resolve_left eb
   have q := q (fun h => h.elim ea eb) Jh
   cbv
   refine aj (fun e => ?_) (fun e => ?_)
   ·rw [decide_eq_true e]
    cbv
    exact q
   ·cbv
    have e2 := Jh.resolve_left fun h => e (gp.mpr h)
    refine aj (fun _ => ?_) (fun e => absurd (gp.mpr e2) e)
    cbv
    exact q
end
end
section
inductive Up (T : cN) : Nat -> Nat -> Prop
 | refl {s : Nat} : Up T s s
 | step {s i b u : Nat} : T.ak[s]? = some (.ae [.int 10, .int i]) -> T.ao[i]? = some (.int b) -> Up T b u -> Up T s u
def yR (T : cN) (m : Int) (s t : Nat) : Prop := m ≠ 3 /\ ∃ u, Up T s u /\ (u = t \/ ∃ ps, T.ak[t]? = some (.ae [.int 6, .ae ps]) /\ V.int u ∈ ps)
noncomputable def key (s t : Nat) : V := .ae [.int s, .int t]
def pC (T : cN) (m : Int) (k : V) (b : Bool) : Prop := ∃ s t : Nat, k = key s t /\ s < T.ak.length /\ t < T.ak.length /\ (b = true <-> yR T m s t)
def Ng (T : cN) (m : Int) (kn : List (V × V)) : Prop := ∀ k v, (k, v) ∈ kn -> ∃ b, v = .bool b /\ pC T m k b
noncomputable def cM (l : List V) : List (V × V) := l.map fun k => (k, .int 1)
structure AI (T : cN) (m : Int) (S : cW) : Prop where
 bw : Ng T m S.bw
 G5 : S.bw.length + S.aS.length <= S.a9
 dF : S.dF = cM S.aS
 nd : S.aS.Nodup
structure AR (T : cN) (n : Nat) (m : Int) (S : cW) (σ : ag) (S' : cW) (σ' : ag) (c : Nat) : Prop where
 rr : RR T n m S' σ'
 ai : AI T m S'
 fr : AF n S.tr σ σ'
 da : S'.da = S.da
 az : S'.az = S.az
 aw : S'.aw = S.aw
 cU : S'.cU = S.cU
 dW : S'.dW = S.dW
 a9 : S.a9 <= S'.a9 /\ S'.a9 <= S.a9 + c
def DB (S S' : cW) : Prop := S'.tr = S.tr /\ S'.aS = S.aS
def QO (T : cN) (m : Int) (S : cW) (σ : ag) (S' : cW) : Prop := (S.aS = [] -> S'.aS = [] /\ (S'.tr = S.tr \/ σ.length <= S'.tr)) /\ (S.aS ≠ [] -> S'.tr = S.tr /\ ∃ l, S'.aS = S.aS ++ l /\ ∀ k ∈ l, pC T m k true)
def DL (T : cN) (m : Int) (S : cW) (σ : ag) (S' : cW) (v : Bool) : Prop := (v = false -> DB S S') /\ (v = true -> QO T m S σ S')
section
variable {S : cW}
theorem vo : ∀ {l : List V} {k : V}, k ∉ l -> bJ (cM l) k = none
 | [], _, _ => rfl
 | x :: l, k, h => by
  rw [List.mem_cons, not_or] at h
  unfold cM bJ
  rw [List.map_cons, List.find?_cons_of_neg (by simpa using fun e => h.1 e.symm)]
  exact vo h.2
theorem vn {l : List V} {k : V} (h : k ∈ l) : (bJ (cM l) k).isSome = true := by
 unfold bJ cM
 rw [Option.isSome_map, List.find?_isSome]
 exact ⟨(k, .int 1), List.mem_map.mpr ⟨k, h, rfl⟩, by simp⟩
theorem sT {l : List V} {k : V} (h : k ∉ l) : sP (cM (l ++ [k])) k = cM l := by
 unfold sP cM
 rw [List.map_append, List.filter_append, List.filter_eq_self.mpr, List.map_singleton, List.filter_cons_of_neg (by simp), List.filter_nil, List.append_nil]
 ·intro p hp
  obtain ⟨x, hx, rfl⟩ := List.mem_map.mp hp
  simpa using fun e : x = k => h (e ▸ hx)
theorem sU {l : List V} {k : V} (h : k ∉ l) : sP (cM (k :: l)) k = cM l := by
 unfold sP cM
 rw [List.map_cons, List.filter_cons_of_neg (by simp), List.filter_eq_self.mpr]
 intro p hp
 obtain ⟨x, hx, rfl⟩ := List.mem_map.mp hp
 simpa using fun e : x = k => h (e ▸ hx)
theorem u3 {kvs : List (V × V)} {k v : V} (h : bJ kvs k = none) : cP kvs k v = kvs ++ [(k, v)] := by
 unfold cP; rw [h]; rfl
theorem CQ {kvs : List (V × V)} {k v : V} (h : bJ kvs k = some v) : (k, v) ∈ kvs := by
 unfold bJ at h
 obtain ⟨p, hp, e⟩ := Option.map_eq_some_iff.mp h
 have h1 := List.find?_some hp
 have h2 := List.mem_of_find?_eq_some hp
 simp only [decide_eq_true_eq] at h1
 subst e; subst h1; exact h2
set_option tactic.hygienic true in
theorem u6 {kn : List (V × V)} {k : V} {b : Bool} (h : Ng T m kn) (hk : pC T m k b) : Ng T m (cP kn k (.bool b)) := by
 intro k' v hv
 unfold cP at hv
 split at hv
 ·obtain ⟨p, hp, e⟩ := List.mem_map.mp hv
  split at e
  ·rename_i e2
   cases e
   exact ⟨b, rfl, by rw [e2]; exact hk⟩
  ·rw [e] at hp; exact h _ _ hp
 ·rcases List.mem_append.mp hv with hv | hv
  ·exact h _ _ hv
  ·cases List.mem_singleton.mp hv; exact ⟨b, rfl, hk⟩
theorem u5 {kn : List (V × V)} {k v : V} : (cP kn k v).length <= kn.length + 1 := by
 unfold cP; split
 ·rw [List.length_map]; lia
 ·rw [List.length_append]; exact Nat.le_refl _
theorem di {i : V} {kvs : List (V × V)} (h : σ[n]? = some (.dict .ae kvs)) (hk : i.kind = some .ae) (hs : (bJ kvs i).isSome = true) : Ni n i σ (σ.set n (.dict .ae (sP kvs i))) := .mk h hk hs
theorem Ju {k : V} {l : List V} (R : RR T n m S σ) (A : AI T m S) (hl : S.aS = l ++ [k]) (hk : k.kind = some .ae)
  (q : ∀ σ', RR T n m { S with aS := l, dF := cM l } σ' -> AF n S.tr σ σ' -> Q .none σ') : cl (d + 1) 46 [.ref n, .ae [.int S.az.length, .int l.length]] σ Q := by
 have h := R.cO
 have h6 := R.no
 have Ny : k ∉ l := by
  have := A.nd
  rw [hl] at this
  exact fun hk => (List.nodup_append.mp this).2.2 k hk k (.head _) rfl
 refine uB ?_
 cbv
 refine MR R.nr ?_
 rw [List.take_length]
 have R1 : RR T n m S (σ.set (n + 7) (.list S.az)) := R.g7 (i := 7) (by decide) ⟨rfl, rfl, rfl⟩ rfl rfl rfl
 have F1 : AF n S.tr σ (σ.set (n + 7) (.list S.az)) := .set fun h => h.2.2.2.1 rfl
 refine lY.mk (fun i ρ σ' => ρ = [some (.ref n), some (.ae [.int S.az.length, .int l.length])] /\ AF n S.tr σ σ' /\ ((i = 1 /\ RR T n m S σ') \/ (i = 0 /\ RR T n m { S with aS := l, dF := cM l } σ'))) 1 (by decide) ⟨rfl, F1, .inl ⟨rfl, R1⟩⟩ ?_
 rintro i ρ ab ⟨rfl, F, h | h⟩
 ·obtain ⟨rfl, R1⟩ := h
  have h := R1.cO
  cbv
  refine b3 R1.tr ?_
  cbv
  refine aj (fun _ => ?_) (fun e => absurd (by rw [hl, List.length_append]; show (l.length : Int) < ((l.length + 1 : Nat) : Int); lia) e)
  refine ⟨0, by decide, ?_⟩
  have ht := R1.tr
  cbv
  refine Bq ht (by rw [hl]; exact List.getLast?_concat) ?_
  have R2 := R1.tH (l := l)
  rw [hl, List.dropLast_concat]
  refine G1 (di R2.dF hk (by show (bJ S.dF k).isSome = true; rw [A.dF, hl]; exact vn (List.mem_append.mpr (.inr (.head _))))) ?_
  have e : sP S.dF k = cM l := by rw [A.dF, hl]; exact sT Ny
  rw [e]
  refine ⟨rfl, F.trans ((AF.set (tr := S.tr) fun h => h.2.2.2.2 rfl).trans (.set (tr := S.tr) fun h => h.2.1 rfl) (.inl rfl)) (.inl rfl), .inr ⟨rfl, R2.g7 (i := 2) (by decide) ⟨rfl, rfl, rfl⟩ rfl rfl rfl⟩⟩
 ·obtain ⟨rfl, R1⟩ := h
  have h := R1.cO
  cbv
  refine b3 R1.tr ?_
  cbv
  refine aj (fun e => absurd e (by show ¬ (l.length : Int) < l.length; lia)) (fun _ => ?_)
  cbv
  exact q _ R1 F
end
end
variable {c : Nat}
section
section
variable {S : cW}
theorem pC.kind {k : V} {b : Bool} (h : pC T m k b) : k.kind = some .ae := by
 obtain ⟨s, t, rfl, _⟩ := h; rfl
theorem CX (R : RR T n m S σ) (A : AI T m S) (hl : S.a9 < 900000) (hk : ∀ k ∈ S.aS, pC T m k true)
  (q : ∀ tr kn σ', RR T n m { S with tr := tr, aS := [], dF := [], bw := kn } σ' -> Ng T m kn -> kn.length <= S.bw.length + S.aS.length -> AF n S.tr σ σ' -> σ.length <= tr -> Q .none σ') : cl (d + 1) 50 [.ref n, .bool true] σ Q := by
 have h := R.cO
 have PG := A.G5
 refine oF ?_
 refine cT.cv id (.seq (.ref S.tr)) S.aS S.aS (fun i : Option V × List (V × V) => [some (.ref n), some (.bool true), i.1])
  (fun _ td i σ' => AF n S.tr σ σ' /\ RR T n m { S with dF := cM td, bw := i.2 } σ' /\ Ng T m i.2 /\ i.2.length + td.length <= S.bw.length + S.aS.length) ?_ ?_ ?_
 ·cbv
  refine eL R.tr ?_
  refine .cn (List.map_id _).symm (_, S.bw) ?_
  exact ⟨.refl, by rw [<- A.dF]; exact R, A.bw, Nat.le_refl _⟩
 ·rintro dn x xs ⟨y, kn⟩ ab iN J
  have hx := qy iN
  have F := J.1
  have R1 : RR T n m { S with dF := cM (x :: xs), bw := kn } ab := J.2.1
  have Pz := J.2.2.1
  have cQ : kn.length + (xs.length + 1) <= S.bw.length + S.aS.length := J.2.2.2
  have hK := hk x hx
  have TV : x ∉ xs := by
   have := A.nd
   rw [<- iN] at this
   exact (List.nodup_cons.mp (List.nodup_append.mp this).2.1).1
  have h := R1.cO
  cbv
  have Uw : Ni (n + 2) x ab (ab.set (n + 2) (.dict .ae (cM xs))) := sU TV ▸ di R1.dF hK.kind (vn (.head _))
  refine G1 Uw ?_
  have R2 : RR T n m { S with dF := cM xs, bw := kn } (ab.set (n + 2) (.dict .ae (cM xs))) := R1.g7 (i := 2) (by decide) ⟨rfl, rfl, rfl⟩ rfl rfl rfl
  have h := R2.cO
  cbv
  have hd := u5 (kn := kn) (k := x) (v := .bool true)
  refine dI (cg R2.kn hK.kind (by show kn.length < _; lia)) ?_
  have R3 := R2.g7 (S' := { S with dF := cM xs, bw := cP kn x (.bool true) }) (i := 3) (by decide) ⟨rfl, rfl, rfl⟩ rfl rfl rfl
  refine ⟨ba R3.tr, ?_⟩
  refine .next iN (_, cP kn x (.bool true)) ?_
  exact ⟨F.trans ((AF.set (tr := S.tr) fun h => h.2.1 rfl).trans (.set (tr := S.tr) fun h => h.2.2.1 rfl) (.inl rfl)) (.inl rfl), R3, u6 Pz hK, by lia⟩
 ·rintro ⟨y, kn⟩ ab J
  have R1 : RR T n m { S with dF := cM [], bw := kn } ab := J.2.1
  have F := J.1
  have h := aH (p := aN.list []) R1.cO
  cbv
  refine jt (sa h (Nat.le_of_ble_eq_true rfl)) ?_
  refine q ab.length kn _ ?_ J.2.2.1 J.2.2.2 (F.trans ((AF.push (tr := S.tr)).trans (.set (tr := S.tr) fun h => h.1 rfl) (.inl rfl)) (.inl rfl)) F.len
  exact R1.BK
theorem q3 {kd : KK} {kvs : List (V × V)} {F : j5 -> Prop} (h : σ[n]? = some (.dict kd kvs)) (q : F .j6) : Nj n 3 σ F := .dict h rfl q
theorem Cw {kd : KK} {kvs : List (V × V)} {k : V} (h : σ[n]? = some (.dict kd kvs)) (hk : k.kind = some kd) (q : Q ((bJ kvs k).getD .none) σ) : Og σ Q (.ref n) 3 [k] := .get h hk q
theorem rG {i : Int} {x y : V} (R : RR T n m S σ) (hi : i ≠ 2) (q : Q (.bool false) σ) : cl (d + 1) 43 [.ref n, .int i, x, y] σ Q := by
 have h := R.cO
 refine oG ?_
 cbv
 refine q3 R.eM ?_
 cbv
 refine Cw R.eM rfl ?_
 have e : bJ [(V.int 2, V.ref 22)] (.int i) = none := by
  unfold bJ
  rw [List.find?_cons_of_neg (by simpa using fun e => hi e.symm)]; rfl
 rw [e]
 cbv
 exact q
theorem km {x y : V} (R : RR T n m S σ) (k : cl (d + 1) 78 [.ref 22, .ref n, x, y] σ Q) : cl (d + 2) 43 [.ref n, .int 2, x, y] σ Q := by
 have h1 := R.cO
 have jn := R.rule
 refine oG ?_
 cbv
 refine q3 R.eM ?_
 cbv
 refine Cw R.eM rfl ?_
 cbv
 exact k
theorem H7 {i : Nat} {b : Int} (R : TR T σ) (hb : T.ao[i]? = some (.int b)) (hn : b ≠ 0) (h0 : 0 <= b) (q : Q (.int b) σ) : cl (d + 1) 62 [.ref 4, .int i] σ Q := by
 have h4 := R.aO
 refine r8 ?_
 cbv
 refine aG (cD R.ao (fh hb)) ?_
 cbv
 refine aj (fun e => absurd e (by lia)) (fun _ => ?_)
 cbv
 refine aj (fun e => absurd e hn) (fun _ => ?_)
 cbv
 exact q
theorem uH (R : RR T n m S σ) (hm : m ≠ 3) (hs : T.ak[s]? = some (.ae (.int a :: ra))) (ha : a ≠ 10) (q : Q (.bool false) σ) : cl (d + 2) 78 [.ref 22, .ref n, .int s, .int t] σ Q := by
 have h1 := R.cO
 have h2 := R.cu
 have h4 := R.aO.aO
 refine fK ?_
 cbv
 refine bF (fun _ => ?_) (fun e => absurd e hm)
 cbv
 refine gM ?_
 cbv
 refine aG (aI R.aO hs) ?_
 cbv
 refine bF (fun _ => ?_) (fun e => absurd e ha)
 cbv
 exact q
theorem qG {i b : Nat} (R : RR T n m S σ) (hm : m ≠ 3) (hs : T.ak[s]? = some (.ae [.int 10, .int i])) (hb : T.ao[i]? = some (.int b)) (hn : b ≠ 0)
  (k : cl (d + 1) 39 [.ref n, .int b, .int t] σ Q) : cl (d + 3) 78 [.ref 22, .ref n, .int s, .int t] σ Q := by
 have h1 := R.cO
 have h2 := R.cu
 have h4 := R.aO.aO
 refine fK ?_
 cbv
 refine bF (fun _ => ?_) (fun e => absurd e hm)
 cbv
 refine gM ?_
 cbv
 refine aG (aI R.aO hs) ?_
 cbv
 refine H7 R.aO hb (fun e => hn (Int.ofNat.inj e)) (Int.natCast_nonneg _) ?_
 cbv
 have fP : (b : Int) ≠ s := by
  obtain ⟨j, c, e1, e2, e3⟩ := R.aO.rM s _ hs
  cases Int.ofNat.inj (V.int.inj e1)
  rw [hb] at e2
  cases e2
  lia
 refine bF (fun _ => ?_) (fun e => absurd e fP)
 cbv
 exact k
end
end
section
section
variable {S : cW}
noncomputable def cW.lO (S : cW) (k : V) : cW := { S with a9 := S.a9 + 1, dF := S.dF ++ [(k, .int 1)], aS := S.aS ++ [k], da := S.da + 1 }
theorem AR.refl (R : RR T n m S σ) (A : AI T m S) : AR T n m S σ S σ c := ⟨R, A, .refl, rfl, rfl, rfl, rfl, rfl, Nat.le_refl _, by lia⟩
theorem DL.refl {v : Bool} : DL T m S σ S v := ⟨fun _ => ⟨rfl, rfl⟩, fun _ => ⟨fun h => ⟨h, .inl rfl⟩, fun _ => ⟨rfl, [], (List.append_nil _).symm, fun _ h => nomatch h⟩⟩⟩
theorem AR.up {c' : Nat} (x : AR T n m S σ S' σ' c) (h : c <= c') : AR T n m S σ S' σ' c' := { x with a9 := ⟨x.a9.1, by have := x.a9.2; lia⟩ }
theorem FF {b v : Bool} {P : Prop} (h1 : b = true <-> P) (h2 : v = true <-> P) : b = v := by
 cases b <;> cases v <;> first | rfl | exact absurd (h1.mpr (h2.mp rfl)) Bool.noConfusion | exact absurd (h2.mpr (h1.mp rfl)) Bool.noConfusion
theorem OM {D f g : Nat} {args : List V} {P : Prop} [Decidable P] (h : cl D (if P then f else g) args σ Q) : @Bool.rec (fun _ => Prop) (cl D g args σ Q) (cl D f args σ Q) (decide P) := by
 refine aj (fun e => ?_) (fun e => ?_)
 ·rw [if_pos e] at h; exact h
 ·rw [if_neg e] at h; exact h
theorem M4 {D f : Nat} {a : V} {P : Prop} [Decidable P] (h : P) (k : cl D f [a, .bool true] σ Q) : cl D f [a, .bool (decide P)] σ Q := by rw [decide_eq_true h]; exact k
theorem RR.sa {a : Nat} {v : V} {F : ag -> Prop} (R : RR T n m S σ) (S' : cW) (h : S'.dF = S.dF /\ S'.bw = S.bw /\ S'.tr = S.tr /\ S'.aS = S.aS /\ S'.az = S.az) (e : oJ (bj n m S) a v = bj n m S')
  (q : ∀ σ', RR T n m S' σ' -> (∀ tr, AF n tr σ σ') -> F σ') : JL n a v σ F := by
 refine jt (_root_.Mine.sa R.cO (Nat.le_of_ble_eq_true rfl)) ?_
 rw [e]
 exact q _ (R.HO h) fun _ => .set fun h => h.1 rfl
theorem RR.JE {k v : V} {F : ag -> Prop} (R : RR T n m S σ) (hk : k.kind = some .ae) (hl : S.dF.length < 1000000) (q : ∀ σ', RR T n m { S with dF := cP S.dF k v } σ' -> (∀ tr, AF n tr σ σ') -> F σ') : N8 (n + 2) k v σ F :=
 dI (cg R.dF hk hl) (q _ (R.g7 (i := 2) (by decide) ⟨rfl, rfl, rfl⟩ rfl rfl rfl) fun _ => .set fun h => h.2.1 rfl)
theorem RR.Gy {k v : V} {F : ag -> Prop} (R : RR T n m S σ) (hk : k.kind = some .ae) (hl : S.bw.length < 1000000) (q : ∀ σ', RR T n m { S with bw := cP S.bw k v } σ' -> (∀ tr, AF n tr σ σ') -> F σ') : N8 (n + 3) k v σ F :=
 dI (cg R.kn hk hl) (q _ (R.g7 (i := 3) (by decide) ⟨rfl, rfl, rfl⟩ rfl rfl rfl) fun _ => .set fun h => h.2.2.1 rfl)
theorem RR.Kg {k : V} (R : RR T n m S σ) (hl : S.aS.length < 1000000) (q : ∀ σ', RR T n m { S with aS := S.aS ++ [k] } σ' -> AF n S.tr σ σ' -> Q .none σ') : Ar σ Q (.ref S.tr) 0 [k] :=
 cw R.tr hl (q _ R.tH (.set fun h => h.2.2.2.2 rfl))
theorem AR.Ky {S' : cW} (X : AR T n m S σ S' σ' c) : S' = ⟨S'.tr, S'.aS, S'.dF, S'.bw, S'.a9, S.da, S.az, S.aw, S.cU, S.dW⟩ := by
 rw [<- X.da, <- X.az, <- X.aw, <- X.cU, <- X.dW]
theorem yo {v : Bool} (R : RR T n m S σ) (A : AI T m S) (hs : s < T.ak.length) (ht : t < T.ak.length) (hv : v = true <-> yR T m s t) (hk : key s t ∉ S.aS) (hl : S.a9 < 20000) (hd : S.da < 60)
  (body : ∀ ab, RR T n m (S.lO (key s t)) ab -> AI T m (S.lO (key s t)) -> ∀ Q' : PQ, (∀ ax ah, AR T n m (S.lO (key s t)) ab ax ah c -> DL T m (S.lO (key s t)) ab ax v -> Q' (.bool v) ah) -> cl (d + 2) (if m = 3 then 60 else 55) [.ref n, .int s, .int t] ab Q')
  (hc : S.a9 + c < 500000)
  (q : ∀ S' σ', AR T n m S σ S' σ' (c + 1) -> DL T m S σ S' v -> Q (.bool v) σ') : cl (d + 3) 49 [.ref n, .int s, .int t] σ Q := by
 have h := R.cO
 have PG := A.G5
 have hK : pC T m (key s t) v := ⟨s, t, rfl, hs, ht, hv⟩
 refine mT ?_
 cbv
 refine dD (cK R.kn rfl) ?_
 cases hg : bJ S.bw (key s t) with
 | some w =>
  obtain ⟨b, rfl, s', t', e, _, _, hb⟩ := A.bw _ _ (CQ hg)
  have e1 := V.ae.inj e
  cases Int.ofNat.inj (V.int.inj (List.cons.inj e1).1)
  cases Int.ofNat.inj (V.int.inj (List.cons.inj (List.cons.inj e1).2).1)
  cases FF hb hv
  refine iI (by rw [show (V.ae [V.int s, V.int t]) = key s t from rfl, hg]; rfl) ?_
  cbv
  refine aG (sH R.kn rfl hg) ?_
  exact q S σ (AR.refl R A) .refl
 | none =>
  refine cY (by rw [show (V.ae [V.int s, V.int t]) = key s t from rfl, hg]; rfl) ?_
  cbv
  have GO : bJ S.dF (key s t) = none := by rw [A.dF]; exact vo hk
  refine dD (cK R.dF rfl) (cY (by rw [show (V.ae [V.int s, V.int t]) = key s t from rfl, GO]; rfl) ?_)
  cbv
  refine aj (fun e => absurd e (by lia)) (fun e => ?_)
  refine cY (decide_eq_false e) ?_
  cbv
  refine aj (fun e => absurd e (by lia)) (fun _ => ?_)
  cbv
  refine aj (fun e => absurd e (by lia)) (fun _ => ?_)
  cbv
  refine R.sa { S with a9 := S.a9 + 1 } ⟨rfl, rfl, rfl, rfl, rfl⟩ (by rfl) fun ab R1 F1 => ?_
  have h := R1.cO
  cbv
  refine yi R1 ?_
  cbv
  refine R1.JE rfl (by show S.dF.length < _; rw [A.dF]; unfold cM; rw [List.length_map]; lia) fun ah R2 F2 => ?_
  have h := R2.cO
  cbv
  refine eF R2.tr rfl ?_
  refine R2.Kg (by show S.aS.length < _; lia) fun aA R3 F3 => ?_
  have h := R3.cO
  cbv
  refine R3.sa (S.lO (key s t)) ⟨(u3 GO).symm, rfl, rfl, rfl, rfl⟩ (by rfl) fun bc R4 F4 => ?_
  have F4 : AF n S.tr σ bc := (F1 S.tr).trans ((F2 S.tr).trans (F3.trans (F4 S.tr) (.inl rfl)) (.inl rfl)) (.inl rfl)
  have A4 : AI T m (S.lO (key s t)) := ⟨A.bw, by show S.bw.length + (S.aS ++ [key s t]).length <= S.a9 + 1; rw [List.length_append]; show S.bw.length + (S.aS.length + 1) <= _; lia, by show S.dF ++ _ = cM (S.aS ++ [key s t]); rw [A.dF]; unfold cM; rw [List.map_append]; rfl,
   List.nodup_append.mpr ⟨A.nd, .cons (fun _ h => nomatch h) .nil, fun x hx y hy e => hk (by rw [List.mem_singleton.mp hy] at e; exact e ▸ hx)⟩⟩
  have h := R4.cO
  cbv
  refine OM ?_
  refine body bc R4 A4 _ fun ax bg X O => ?_
  obtain ⟨HA, iC, Ab, dO, b9, rfl⟩ : ∃ HA iC Ab dO b9, ax = ⟨HA, iC, Ab, dO, b9, S.da + 1, S.az, S.aw, S.cU, S.dW⟩ := ⟨_, _, _, _, _, X.Ky⟩
  have R5 := X.rr
  have A5 := X.ai
  have F5 := X.fr
  have h := R5.cO
  cbv
  refine R5.sa ⟨HA, iC, Ab, dO, b9, S.da, S.az, S.aw, S.cU, S.dW⟩ ⟨rfl, rfl, rfl, rfl, rfl⟩ (congrArg (fun z => oJ (bj n m ⟨HA, iC, Ab, dO, b9, S.da + 1, S.az, S.aw, S.cU, S.dW⟩) 120 (V.int z)) (show ((S.da + 1 : Nat) : Int) - 1 = S.da by lia)) fun iy R6 F6 => ?_
  have VD : S.a9 + 1 <= b9 := X.a9.1
  have VC : b9 <= S.a9 + 1 + c := X.a9.2
  have Uy : dO.length + iC.length <= b9 := A5.G5
  have F6 : AF n S.tr σ iy := F4.trans (F5.trans (F6 S.tr) (.inl rfl)) (.inl rfl)
  have A6 : AI T m ⟨HA, iC, Ab, dO, b9, S.da, S.az, S.aw, S.cU, S.dW⟩ := ⟨A5.bw, A5.G5, A5.dF, A5.nd⟩
  have h := R6.cO
  cases v with
  | false =>
   obtain ⟨g1, g2⟩ := O.1 rfl
   change HA = S.tr at g1
   change iC = S.aS ++ [key s t] at g2
   subst g1 g2
   rw [List.length_append, List.length_singleton] at Uy
   cbv
   refine Ju (S := ⟨S.tr, S.aS ++ [key s t], Ab, dO, b9, S.da, S.az, S.aw, S.cU, S.dW⟩) (k := key s t) (l := S.aS) R6 A6 rfl rfl fun ix R7 F7 => ?_
   have F7 := F6.trans F7 (.inl rfl)
   have h := R7.cO
   have go : yR T m s t -> False := fun y => Bool.noConfusion (hv.mpr y)
   have MG : ∀ gA, RR T n m ⟨S.tr, S.aS, cM S.aS, cP dO (key s t) (.bool false), b9, S.da, S.az, S.aw, S.cU, S.dW⟩ gA -> AF n S.tr σ gA -> Q (.bool false) gA := fun gA R8 F8 =>
    q _ gA ⟨R8, ⟨u6 A5.bw hK, by have := u5 (kn := dO) (k := key s t) (v := .bool false); show (cP dO (key s t) (.bool false)).length + S.aS.length <= b9; lia, rfl, A.nd⟩, F8, rfl, rfl, rfl, rfl, rfl, by show S.a9 <= b9; lia, by show b9 <= _; lia⟩ ⟨fun _ => ⟨rfl, rfl⟩, fun e => nomatch e⟩
   cbv
   refine aj (fun e => ?_) (fun _ => ?_)
   ·refine iI (decide_eq_true e) ?_
    cbv
    refine R7.Gy rfl (by show dO.length < _; lia) fun gA R8 F8 => MG _ R8 (F7.trans (F8 S.tr) (.inl rfl))
   ·cbv
    refine bF (fun e => ?_) (fun e => ?_)
    ·cbv
     refine R7.Gy rfl (by show dO.length < _; lia) fun gA R8 F8 => MG _ R8 (F7.trans (F8 S.tr) (.inl rfl))
    ·refine q _ ix ⟨R7, ⟨A5.bw, by show dO.length + S.aS.length <= b9; lia, rfl, A.nd⟩, F7, rfl, rfl, rfl, rfl, rfl, by show S.a9 <= b9; lia, by show b9 <= _; lia⟩ ⟨fun _ => ⟨rfl, rfl⟩, fun e => nomatch e⟩
  | true =>
   obtain ⟨g1, l, g2, g3⟩ := (O.2 rfl).2 (by show S.aS ++ [key s t] ≠ []; simp)
   change HA = S.tr at g1
   change iC = S.aS ++ [key s t] ++ l at g2
   subst g1 g2
   cbv
   refine aj (fun e => ?_) (fun e => ?_)
   ·have e0 : S.aS = [] := List.length_eq_zero_iff.mp (Int.ofNat.inj e)
    have h6 := R6.no
    cbv
    refine b3 R6.nr ?_
    cbv
    refine M4 rfl ?_
    refine CX R6 A6 (by show b9 < _; lia) (fun k hk => ?_) fun tr kn ix R7 Pz Ny F7 fP => ?_
    ·change k ∈ S.aS ++ [key s t] ++ l at hk
     rw [e0] at hk
     rcases List.mem_cons.mp hk with rfl | hk
     ·exact hK
     ·exact g3 k hk
    ·cbv
     refine q _ ix ⟨R7, ⟨Pz, by show kn.length + 0 <= b9; change kn.length <= dO.length + (S.aS ++ [key s t] ++ l).length at Ny; lia, rfl, .nil⟩, F6.trans F7 (.inl rfl), rfl, rfl, rfl, rfl, rfl, by show S.a9 <= b9; lia, by show b9 <= _; lia⟩ ⟨(fun e => nomatch e), fun _ => ⟨fun _ => ⟨rfl, .inr (Nat.le_trans F6.len fP)⟩, fun h => absurd e0 h⟩⟩
   ·cbv
    refine q _ iy ⟨R6, A6, F6, rfl, rfl, rfl, rfl, rfl, by show S.a9 <= b9; lia, by show b9 <= _; lia⟩ ⟨(fun e => nomatch e), fun _ => ⟨fun h => absurd (by rw [h]; rfl) e, fun _ => ⟨rfl, key s t :: l, by show _ ++ _ ++ _ = _; rw [List.append_assoc]; rfl, fun k hk => ?_⟩⟩⟩
    rcases List.mem_cons.mp hk with rfl | hk
    ·exact hK
    ·exact g3 k hk
end
end
variable {h : Nat} {v : Bool}
section
def gi (S : cW) (k : Nat) : Prop := ∀ x ∈ S.aS, ∃ i j : Nat, x = key i j /\ k <= i + j
structure bH (T : cN) (n : Nat) (m : Int) (s t : Nat) (v : Bool) (c h : Nat) : Prop where
 iff : v = true <-> yR T m s t
 ask : ∀ (d : Nat) (σ : ag) (S : cW) (Q : PQ), 10 * h <= d -> RR T n m S σ -> AI T m S -> gi S (s + t + 1) -> S.a9 + c <= 20000 -> S.da + h <= 60 ->
  (∀ S' σ', AR T n m S σ S' σ' c -> DL T m S σ S' v -> Q (.bool v) σ') -> cl d 48 [.ref n, .int s, .int t] σ Q
section
variable {S : cW}
theorem sW (R : RR T n m S σ) (hm : m ≠ 3) (st : s ≠ t) (D : j4 T s t a b ra rb) (la : vA a ra) (lb : vA b rb) (k : cl (d + 3) 49 [.ref n, .int s, .int t] σ Q) : cl (d + 4) 48 [.ref n, .int s, .int t] σ Q := by
 have h := R.cO
 have HL : ¬((s : Int) = t) := fun e => st (Int.ofNat.inj e)
 refine hS ?_
 cbv
 refine aj (fun e => absurd e HL) (fun _ => ?_)
 cbv
 refine g0 R D.hs la ?_
 cbv
 refine g0 R D.ht lb ?_
 cbv
 refine aj (fun e => absurd e HL) (fun _ => ?_)
 cbv
 refine aj (fun e => absurd e hm) (fun _ => ?_)
 cbv
 refine qr R D ?_
 cbv
 refine aj (fun e => ?_) (fun e => ?_)
 ·cbv
  refine bF (fun e2 => ?_) (fun e2 => ?_)
  ·cbv
   refine qr R ⟨D.ht, D.hs, ?_, ?_, fun e => absurd e (fun e => D.s0 (by rw [e]; decide)), D.op.symm⟩ ?_
   ·intro h; have := D.t0; simp only [List.mem_cons, List.not_mem_nil, or_false] at h this; lia
   ·intro h; have := D.s0; simp only [List.mem_cons, List.not_mem_nil, or_false] at h this; lia
   ·cbv
    exact k
  ·cbv
   rw [decide_eq_true e2]
   cbv
   exact k
 ·rw [decide_eq_false e]
  cbv
  exact k
theorem j4.S8 (D : j4 T s t a b ra rb) : s < T.ak.length := (dX D.hs)
theorem j4.S7 (D : j4 T s t a b ra rb) : t < T.ak.length := (dX D.ht)
theorem gi.lO {k : Nat} (h : gi S k) (h2 : k <= s + t) : gi (S.lO (key s t)) k := fun x hx => by
 rcases List.mem_append.mp hx with hx | hx
 ·exact h x hx
 ·exact ⟨s, t, List.mem_singleton.mp hx, h2⟩
theorem ji (hm : m ≠ 3) (st : s ≠ t) (D : j4 T s t a b ra rb) (la : vA a ra) (lb : vA b rb) (hv : v = true <-> yR T m s t) (hc : c <= 20000)
  (body : ∀ (d : Nat) (S : cW) (σ : ag), 10 * h <= d -> RR T n m S σ -> AI T m S -> gi S (s + t) -> S.a9 + c <= 20000 -> S.da + h <= 60 -> ∀ Q : PQ,
   (∀ S' σ', AR T n m S σ S' σ' c -> DL T m S σ S' v -> Q (.bool v) σ') -> cl (d + 8) 55 [.ref n, .int s, .int t] σ Q) : bH T n m s t v (c + 1) (h + 1) := by
 refine ⟨hv, fun d σ S Q hd R A U hl xh q => ?_⟩
 obtain ⟨d, rfl⟩ := Nat.exists_eq_add_of_le (show 10 <= d by lia)
 rw [Nat.add_comm 10 d]
 refine sW (d := d + 6) R hm st D la lb ?_
 refine yo (d := d + 6) (c := c) R A D.S8 D.S7 hv (fun hk => ?_) (by lia) (by lia) (fun ab vy JP Q' k => ?_) (by lia) q
 ·obtain ⟨i, j, e, fP⟩ := U _ hk
  have e1 := V.ae.inj e
  cases Int.ofNat.inj (V.int.inj (List.cons.inj e1).1)
  cases Int.ofNat.inj (V.int.inj (List.cons.inj (List.cons.inj e1).2).1)
  lia
 ·rw [if_neg hm]
  exact body d (S.lO (key s t)) ab (by lia) vy JP (gi.lO (fun x hx => (U x hx).elim fun i p => p.elim fun j p => ⟨i, j, p.1, by have := p.2; lia⟩) (Nat.le_refl _)) (by show S.a9 + 1 + c <= _; lia) (by show S.da + 1 + h <= _; lia) Q' k
theorem lW (hm : m ≠ 3) : bH T n m s s true 0 1 := by
 refine ⟨⟨fun _ => ⟨hm, s, .refl, .inl rfl⟩, fun _ => rfl⟩, fun d σ S Q hd R A U hl xh q => ?_⟩
 obtain ⟨d, rfl⟩ := Nat.exists_eq_add_of_le (show 1 <= d by lia)
 rw [Nat.add_comm 1 d]
 refine hS ?_
 cbv
 refine aj (fun _ => ?_) (fun e => absurd rfl e)
 cbv
 exact q S σ (AR.refl R A) .refl
theorem tC (R : RR T n m S σ) (D : j4 T s t a b ra rb) (ha : a ≠ 6) (k6 : b = 6 -> cl d 59 [.ref n, .int s, .int t] σ Q)
  (k : b ≠ 6 -> WE (cl d) [some (.ref n), some (.int s), some (.int t), some (.ref 5), some (.int a), some (.int b)] (.call 43 (.cons (.aa 0) (.cons (.call 56 (.cons (.aa 4) (.cons (.aa 5) .nil))) (.cons (.aa 1) (.cons (.aa 2) .nil))))) σ Q) : cl (d + 1) 55 [.ref n, .int s, .int t] σ Q := by
 have h := R.cO
 have hh := R.cu
 have h4 := R.aO.aO
 refine ju ?_
 cbv
 refine aG (aI R.aO D.hs) ?_
 cbv
 refine aG (aI R.aO D.ht) ?_
 cbv
 refine aj (fun e => absurd e ha) (fun _ => ?_)
 cbv
 refine aj (fun e => ?_) (fun e => ?_)
 ·cbv
  exact k6 e
 ·skip
  exact k e
theorem wy (hs : T.ak[s]? = some (.ae (.int a :: ra))) (ha : a ≠ 10) (st : s ≠ t) (hp : ∀ ps, T.ak[t]? = some (.ae [.int 6, .ae ps]) -> V.int s ∉ ps) : false = true <-> yR T m s t := by
 refine ⟨(fun e => nomatch e), fun ⟨_, u, hu, g⟩ => ?_⟩
 have : u = s := by
  cases hu with
  | refl => rfl
  | step h1 h2 h3 => rw [hs] at h1; exact absurd (V.int.inj (List.cons.inj (V.ae.inj (Option.some.inj h1))).1) ha
 subst this
 rcases g with g | ⟨ps, h1, h2⟩
 ·exact absurd g st
 ·exact absurd h2 (hp ps h1)
theorem lN (ht : T.ak[t]? = some (.ae (.int b :: rb))) (hb : b ≠ 6) {P : List V -> Prop} : ∀ ps, T.ak[t]? = some (.ae [.int 6, .ae ps]) -> P ps := fun ps e => by
 rw [ht] at e
 exact absurd (V.int.inj (List.cons.inj (V.ae.inj (Option.some.inj e))).1) hb
theorem jj (hm : m ≠ 3) (st : s ≠ t) (D : j4 T s t a b ra rb) (la : vA a ra) (lb : vA b rb) (ha : a ≠ 6) (Jm : a ≠ 10) (hb : b ≠ 6) (hr : a = 7 \/ b = 7 \/ a ∈ Dz \/ b ∈ Dz) : bH T n m s t false 1 1 := by
 refine ji (c := 0) (h := 0) hm st D la lb (wy D.hs Jm st (lN D.ht hb)) (Nat.zero_le _) fun d S σ _ R A _ _ _ Q q => ?_
 have q := q S σ (AR.refl R A) .refl
 refine tC R D ha (fun e => absurd e hb) fun _ => ?_
 cbv
 refine xY (fun _ => ?_) (fun _ _ => ?_) hr
 ·cbv
  exact rG R (by decide) q
 ·cbv
  exact km R (uH R hm D.hs Jm q)
end
end
variable {c' : Nat} {l5 : cW}
section
section
variable {S : cW}
theorem AR.trans (x : AR T n m S σ S' σ' c) (g : DB S S') (y : AR T n m S' σ' l5 cy c') : AR T n m S σ l5 cy (c + c') :=
 ⟨y.rr, y.ai, x.fr.trans y.fr (.inl g.1), y.da.trans x.da, y.az.trans x.az, y.aw.trans x.aw, y.cU.trans x.cU, y.dW.trans x.dW, Nat.le_trans x.a9.1 y.a9.1, by have := x.a9.2; have := y.a9.2; lia⟩
theorem DL.trans (x : AR T n m S σ S' σ' c) (g : DB S S') (y : DL T m S' σ' l5 v) : DL T m S σ l5 v := by
 refine ⟨fun e => ⟨(y.1 e).1.trans g.1, (y.1 e).2.trans g.2⟩, fun e => ?_⟩
 obtain ⟨y1, y2⟩ := y.2 e
 rw [g.2] at y1 y2
 rw [g.1] at y1 y2
 exact ⟨fun e => ⟨(y1 e).1, (y1 e).2.imp id (Nat.le_trans x.fr.len)⟩, y2⟩
theorem gi.le {k k' : Nat} (h : gi S k) (hk : k' <= k) : gi S k' := fun x hx => (h x hx).elim fun i p => p.elim fun j p => ⟨i, j, p.1, Nat.le_trans hk p.2⟩
theorem gi.same {k : Nat} (h : gi S k) (g : S'.aS = S.aS) : gi S' k := fun x hx => h x (g ▸ hx)
theorem RR.OO (R : RR T n m S σ) {i b : Nat} (hs : T.ak[s]? = some (.ae [.int 10, .int i])) (hb : T.ao[i]? = some (.int b)) : b < s := by
 obtain ⟨j, c, e1, e2, e3⟩ := R.aO.rM s _ hs
 cases Int.ofNat.inj (V.int.inj e1)
 rw [hb] at e2
 cases e2
 lia
theorem xI {i b0 : Nat} (hs : T.ak[s]? = some (.ae [.int 10, .int i])) (hb : T.ao[i]? = some (.int b0)) (st : s ≠ t) (hp : ∀ ps, T.ak[t]? = some (.ae [.int 6, .ae ps]) -> V.int s ∉ ps) : yR T m b0 t <-> yR T m s t := by
 refine ⟨fun ⟨hm, u, hu, g⟩ => ⟨hm, u, .step hs hb hu, g⟩, fun ⟨hm, u, hu, g⟩ => ?_⟩
 cases hu with
 | refl =>
  rcases g with g | ⟨ps, h1, h2⟩
  ·exact absurd g st
  ·exact absurd h2 (hp ps h1)
 | step h1 h2 h3 =>
  rw [hs] at h1
  cases Int.ofNat.inj (V.int.inj (List.cons.inj (List.cons.inj (V.ae.inj (Option.some.inj h1))).2).1)
  rw [hb] at h2
  cases Int.ofNat.inj (V.int.inj (Option.some.inj h2))
  exact ⟨hm, u, h3, g⟩
theorem pg {i b0 : Nat} (hm : m ≠ 3) (st : s ≠ t) (D : j4 T s t 10 b [.int i] rb) (lb : vA b rb) (hb : T.ao[i]? = some (.int b0)) (h0 : b0 ≠ 0) (fP : b0 < s) (b6 : b ≠ 6) (b7 : b ≠ 7) (hc : c <= 20000) (K : bH T n m b0 t v c h) : bH T n m s t v (c + 1) (h + 1) := by
 refine ji (c := c) (h := h) hm st D (fun e => absurd e (by decide)) lb (K.iff.trans (xI D.hs hb st (lN D.ht b6))) hc fun d S σ hd R A U hl xh Q q => ?_
 refine tC R D (by decide) (fun e => absurd e b6) fun _ => ?_
 cbv
 refine xY (fun e => absurd e (fun e => e.elim (by decide) b7)) (fun _ _ => ?_) (.inr (.inr (.inl (by decide))))
 cbv
 refine km R (qG (d := d + 3) R hm D.hs hb h0 (lX (K.ask (d + 3) σ S Q (by lia) R A (U.le (by lia)) hl xh q)))
theorem qz (hp : ∀ p ∈ ps, ∃ n : Nat, p = .int n) : zX .bt (.int s) (.ae ps) = some (decide (V.int s ∈ ps)) :=
 if_pos ⟨rfl, List.all_eq_true.mpr fun x hx => by obtain ⟨n, rfl⟩ := hp x hx; rfl⟩
structure J5 where
 (a b : Option V) (S : cW)
theorem Ea (R : RR T n m S σ) (A : AI T m S) (ht : T.ak[t]? = some (.ae [.int 6, .ae ps])) (U : gi S (s + t)) (hd : 10 * h <= d) (hl : S.a9 + c * ps.length <= 20000) (xh : S.da + h <= 60)
  (K : ∀ p : Nat, V.int p ∈ ps -> bH T n m s p false c h) (q : ∀ S' σ', AR T n m S σ S' σ' (c * ps.length) -> DB S S' -> Q (.bool false) σ') : cl (d + 2) 58 [.ref n, .int s, .ae ps] σ Q := by
 refine rZ ?_
 cbv
 refine cT.cv id (.seq (.ae ps)) ps ps (fun i : J5 => [some (.ref n), some (.int s), some (.ae ps), some .none, i.a, i.b]) (fun dn _ i σ' => AR T n m S σ i.S σ' (c * dn.length) /\ DB S i.S) ?_ ?_ ?_
 ·cbv
  refine .cn (List.map_id _).symm (J5.mk _ _ S) ?_
  exact ⟨AR.refl R A, rfl, rfl⟩
 ·rintro dn x td ⟨y, z, aU⟩ ab iN J
  obtain ⟨p, rfl, fP⟩ := R.aO.y7 t ps ht x (qy iN)
  have X : AR T n m S σ aU ab (c * dn.length) := J.1
  have g : DB S aU := J.2
  have hmul : c * dn.length + c <= c * ps.length := by have := Nat.mul_le_mul_left c (eC iN); rw [Nat.mul_add, Nat.mul_one] at this; exact this
  have h := X.rr.cO
  cbv
  refine yi X.rr ?_
  cbv
  refine lX ?_
  refine (K p (qy iN)).ask d ab aU _ hd X.rr X.ai ((U.same g.2).le (by lia)) (by have := X.a9.2; lia) (by rw [X.da]; exact xh) fun ax ah Y O => ?_
  cbv
  refine ⟨rfl, .next iN (J5.mk _ _ ax) ?_⟩
  rw [List.length_append, List.length_singleton, Nat.mul_add, Nat.mul_one]
  exact ⟨X.trans g Y, (O.1 rfl).1.trans g.1, (O.1 rfl).2.trans g.2⟩
 ·rintro ⟨y, z, aU⟩ ab J
  cbv
  exact q aU ab J.1 J.2
theorem D6 (R : RR T n m S σ) (ht : T.ak[t]? = some (.ae [.int 6, .ae ps])) (t2 : t ≠ 2) (jW : V.int s ∈ ps) (q : Q (.bool true) σ) : cl (d + 2) 59 [.ref n, .int s, .int t] σ Q := by
 have h := R.cO
 have hh := R.cu
 refine mu ?_
 cbv
 refine cJ R.aO (.inr ⟨t2, 6, _, ht, .inl ⟨rfl, rfl⟩⟩) ?_
 cbv
 refine ir (qz fun p hp => (R.aO.y7 t ps ht p hp).imp fun _ h => h.1) ?_
 rw [decide_eq_true jW]
 cbv
 exact q
theorem A9 (R : RR T n m S σ) (A : AI T m S) (hs : T.ak[s]? = some (.ae (.int a :: ra))) (ht : T.ak[t]? = some (.ae [.int 6, .ae ps])) (t2 : t ≠ 2) (jW : V.int s ∉ ps) (ha : a ∈ Dz \/ a = 7) (U : gi S (s + t)) (hd : 10 * h <= d) (hl : S.a9 + c * ps.length <= 20000) (xh : S.da + h <= 60)
  (K : ∀ p : Nat, V.int p ∈ ps -> bH T n m s p false c h) (k : ∀ S' σ', AR T n m S σ S' σ' (c * ps.length) -> DB S S' -> (a = 7 -> Q (.bool false) σ') /\ (a ∈ Dz -> cl (d + 6) 43 [.ref n, .int 2, .int s, .int t] σ' Q)) : cl (d + 7) 59 [.ref n, .int s, .int t] σ Q := by
 have h1 := R.cO
 have hh := R.cu
 refine mu ?_
 cbv
 refine cJ R.aO (.inr ⟨t2, 6, _, ht, .inl ⟨rfl, rfl⟩⟩) ?_
 cbv
 refine ir (qz fun p hp => (R.aO.y7 t ps ht p hp).imp fun _ h => h.1) ?_
 rw [decide_eq_false jW]
 cbv
 refine Ea (d := d + 4) (h := h) (c := c) R A ht U (by lia) hl xh K fun aU ab X g => ?_
 have k := k aU ab X g
 have R1 := X.rr
 have h4 := R1.aO.aO
 cbv
 refine aG (aI R1.aO hs) ?_
 cbv
 refine aj (fun e => ?_) (fun e => ?_)
 ·cbv
  exact k.2 (gp.mp e)
 ·have e7 := ha.resolve_left fun h => e (gp.mpr h)
  subst e7
  cbv
  refine rG R1 (by decide) ?_
  cbv
  refine rG R1 (by decide) ?_
  exact k.1 rfl
end
end
section
section
variable {S : cW}
theorem bM {r : List V} (h : a ∉ ([2, 3, 4, 5, 8] : List Int)) : vA a r := fun e => absurd e h
theorem Dc (hm : m ≠ 3) (st : s ≠ t) (D : j4 T s t a 6 ra [.ae ps]) (la : vA a ra) (ha : a ≠ 6) (t2 : t ≠ 2) (jW : V.int s ∈ ps) : bH T n m s t true 1 1 := by
 refine ji (c := 0) (h := 0) hm st D la (bM (by decide)) ⟨fun _ => ⟨hm, s, .refl, .inr ⟨ps, D.ht, jW⟩⟩, fun _ => rfl⟩ (Nat.zero_le _) fun d S σ _ R A _ _ _ Q q => ?_
 exact tC R D ha (fun _ => D6 (d := d + 5) R D.ht t2 jW (q S σ (AR.refl R A) .refl)) fun e => absurd rfl e
theorem rQ (hs : T.ak[s]? = some (.ae (.int a :: ra))) (ha : a ≠ 10) (st : s ≠ t) (ht : T.ak[t]? = some (.ae [.int 6, .ae ps])) (jW : V.int s ∉ ps) : false = true <-> yR T m s t :=
 wy hs ha st fun v9 e => by
  rw [ht] at e
  cases (List.cons.inj (List.cons.inj (V.ae.inj (Option.some.inj e))).2).1
  exact jW
theorem vp (hm : m ≠ 3) (st : s ≠ t) (D : j4 T s t a 6 ra [.ae ps]) (la : vA a ra) (ha : a = 7 \/ a ∈ Dz) (Jm : a ≠ 10) (t2 : t ≠ 2) (jW : V.int s ∉ ps) (hc : c * ps.length <= 20000) (K : ∀ p : Nat, V.int p ∈ ps -> bH T n m s p false c h) : bH T n m s t false (c * ps.length + 1) (h + 1) := by
 have h6 : a ≠ 6 := fun e => by rw [e] at ha; exact absurd ha (by decide)
 refine ji (c := c * ps.length) (h := h) hm st D la (bM (by decide)) (rQ D.hs Jm st D.ht jW) hc fun d S σ hd R A U hl xh Q q => ?_
 refine tC R D h6 (fun _ => A9 (d := d) R A D.hs D.ht t2 jW ha.symm U hd hl xh K fun S' σ' X g => ?_) fun e => absurd rfl e
 have q := q S' σ' X ⟨fun _ => g, fun e => nomatch e⟩
 exact ⟨fun _ => q, fun _ => km X.rr (uH X.rr hm D.hs Jm q)⟩
theorem sV {i b0 : Nat} (hm : m ≠ 3) (st : s ≠ t) (D : j4 T s t 10 6 [.int i] [.ae ps]) (hb : T.ao[i]? = some (.int b0)) (h0 : b0 ≠ 0) (fP : b0 < s) (t2 : t ≠ 2) (jW : V.int s ∉ ps) (hc : c * ps.length + c' <= 20000) (K : ∀ p : Nat, V.int p ∈ ps -> bH T n m s p false c h)
  (K2 : bH T n m b0 t false c' h) : bH T n m s t false (c * ps.length + c' + 1) (h + 1) := by
 refine ji (c := c * ps.length + c') (h := h) hm st D (bM (by decide)) (bM (by decide)) (K2.iff.trans (xI D.hs hb st fun v9 e => by
  rw [D.ht] at e
  cases (List.cons.inj (List.cons.inj (V.ae.inj (Option.some.inj e))).2).1
  exact jW)) hc fun d S σ hd R A U hl xh Q q => ?_
 refine tC R D (by decide) (fun _ => A9 (d := d) R A D.hs D.ht t2 jW (.inl (by decide)) U hd (by lia) xh K fun S' σ' X g => ⟨fun e => absurd e (by decide), fun _ => ?_⟩) fun e => absurd rfl e
 refine km X.rr (qG (d := d + 2) X.rr hm D.hs hb h0 (lX (K2.ask (d + 2) σ' S' Q (by lia) X.rr X.ai ((U.same g.2).le (by lia)) (by have := X.a9.2; lia) (by rw [X.da]; exact xh) fun l5 cy Y O => ?_)))
 exact q l5 cy (X.trans g Y) (DL.trans X g O)
theorem pj {p0 : Nat} {v9 : List V} (hm : m ≠ 3) (st : s ≠ t) (D : j4 T s t 6 b [.ae ps] rb) (lb : vA b rb) (s2 : s ≠ 2) (b6 : b ≠ 6) (he : ps = .int p0 :: v9) (hc : c * ps.length <= 20000) (K : ∀ p : Nat, V.int p ∈ ps -> bH T n m p t false c h) : bH T n m s t false (c * ps.length + 1) (h + 1) := by
 refine ji (c := c * ps.length) (h := h) hm st D (bM (by decide)) lb (wy D.hs (by decide) st (lN D.ht b6)) hc fun d S σ hd R A U hl xh Q q => ?_
 have h1 := R.cO
 have hh := R.cu
 have h4 := R.aO.aO
 refine ju ?_
 cbv
 refine aG (aI R.aO D.hs) ?_
 cbv
 refine aG (aI R.aO D.ht) ?_
 cbv
 refine pW ?_
 refine cT.cv id (.seq (.ae ps)) ps ps (fun i : J5 => [some (.ref n), some (.int s), some (.int t), i.a]) (fun dn _ i σ' => AR T n m S σ i.S σ' (c * dn.length) /\ DB S i.S /\ (dn ≠ [] -> m = 2)) ?_ ?_ ?_
 ·cbv
  refine cJ R.aO (.inr ⟨s2, 6, _, D.hs, .inl ⟨rfl, rfl⟩⟩) ?_
  refine .cn (List.map_id _).symm (J5.mk _ none S) ?_
  exact ⟨AR.refl R A, ⟨rfl, rfl⟩, fun e => absurd rfl e⟩
 ·rintro dn x td ⟨y, z, aU⟩ ab iN J
  obtain ⟨p, rfl, fP⟩ := R.aO.y7 s ps D.hs x (qy iN)
  have X : AR T n m S σ aU ab (c * dn.length) := J.1
  have g : DB S aU := J.2.1
  have hmul : c * dn.length + c <= c * ps.length := by have := Nat.mul_le_mul_left c (eC iN); rw [Nat.mul_add, Nat.mul_one] at this; exact this
  have h := X.rr.cO
  cbv
  refine lX ?_
  refine (K p (qy iN)).ask (d + 5) ab aU _ (by lia) X.rr X.ai ((U.same g.2).le (by lia)) (by have := X.a9.2; lia) (by rw [X.da]; exact xh) fun ax ah Y O => ?_
  have h := Y.rr.cO
  have Ps : c * (dn ++ [V.int p]).length = c * dn.length + c := by rw [List.length_append, List.length_singleton, Nat.mul_add, Nat.mul_one]
  have X2 := X.trans g Y
  have g2 : DB S ax := ⟨(O.1 rfl).1.trans g.1, (O.1 rfl).2.trans g.2⟩
  cbv
  refine bF (fun e => ?_) (fun e => ?_)
  ·cbv
   exact q ax ah (X2.up hmul) ⟨fun _ => g2, fun e => nomatch e⟩
  ·cbv
   refine ⟨rfl, .next iN (J5.mk _ none ax) ?_⟩
   rw [Ps]
   exact ⟨X2, g2, fun _ => e⟩
 ·rintro ⟨y, z, aU⟩ ab J
  have X : AR T n m S σ aU ab (c * ps.length) := J.1
  have e2 := J.2.2 (by rw [he]; exact fun h => nomatch h)
  have h := X.rr.cO
  cbv
  exact FE Q e2 (q aU ab X ⟨fun _ => J.2.1, fun e => nomatch e⟩)
end
end
section
section
theorem cF {L : List aN} (i : Nat) : (σ ++ L)[σ.length + i]? = L[i]? := by
 rw [List.getElem?_append_right (Nat.le_add_right _ _), Nat.add_sub_cancel_left]
theorem rD {L : List aN} {o p : aN} : (σ ++ o :: L).set σ.length p = σ ++ p :: L := by
 rw [List.set_append_right _ _ (Nat.le_refl _), Nat.sub_self]; rfl
theorem c8 {k a : Nat} {fs : List (Nat × V)} {L : List aN} {x : V} {F : ag -> Prop} (hl : Nat.ble (fs.length + 1) 100 = true) (hn : fs.lookup a = none)
  (q : F (σ ++ .aF k (fs ++ [(a, x)]) :: L)) : JL σ.length a x (σ ++ .aF k fs :: L) F :=
 jt (sa (cF 0) (Nat.le_of_ble_eq_true hl)) (by rw [rD, kP hn]; exact q)
theorem bG {k a : Nat} {fs : List (Nat × V)} {L os : List aN} {F : ag -> Prop} (hl : Nat.ble (fs.length + 1) 100 = true) (hn : fs.lookup a = none)
  (q : F (σ ++ .aF k (fs ++ [(a, .ref (σ.length + (L.length + 1)))]) :: (L ++ os))) : JL σ.length a (.ref (σ ++ .aF k fs :: L).length) (σ ++ .aF k fs :: L ++ os) F := by
 rw [List.append_assoc, show (σ ++ .aF k fs :: L).length = σ.length + (L.length + 1) by rw [List.length_append, List.length_cons]]
 exact c8 hl hn q
theorem zq {L : List aN} (q : Q (.ref (σ ++ L).length) (σ ++ L ++ [.aF 4 [(4, .ref (σ.length + (L.length + 1)))], .list []])) : cl (d + 1) 0 [.ref (σ ++ L).length] (σ ++ L ++ [.aF 4 []]) (yj (σ ++ L).length Q) := by
 refine pZ ?_
 refine bG (by rfl) (by rfl) ?_
 rw [show (σ ++ L).length + ([].length + 1) = σ.length + (L.length + 1) by rw [List.length_append]; rfl]
 exact q
noncomputable def t4 (n : Nat) (m : Int) : List (Nat × V) := [(128, .ref 13), (129, .int m), (130, .ref (n + 1)), (131, .ref (n + 2)), (132, .ref (n + 3)), (133, .ref (n + 4)), (134, .ref (n + 5)), (120, .int 0), (135, .int 0), (136, .ref (n + 6)), (137, .bool true), (138, .none), (139, .str 40), (39, .int 0)]
noncomputable def nu (n : Nat) : List aN := [.dict .int [], .dict .ae [], .dict .ae [], .list [], .list [], .aF 4 [(4, .ref (n + 7))], .list []]
noncomputable def eB (n : Nat) (m : Int) : List aN := .aF 3 (t4 n m) :: nu n
theorem xZ (q : Q (.ref σ.length) (σ ++ eB σ.length m)) : cl (d + 2) 38 [.ref σ.length, .ref 13, .int m] (σ ++ [.aF 3 []]) (yj σ.length Q) := by
 refine uF ?_
 refine c8 (by rfl) (by rfl) ?_
 refine c8 (by rfl) (by rfl) ?_
 refine bG (by rfl) (by rfl) ?_
 refine bG (by rfl) (by rfl) ?_
 refine bG (by rfl) (by rfl) ?_
 refine bG (by rfl) (by rfl) ?_
 refine bG (by rfl) (by rfl) ?_
 refine c8 (by rfl) (by rfl) ?_
 refine c8 (by rfl) (by rfl) ?_
 refine zq ?_
 refine bG (by rfl) (by rfl) ?_
 refine c8 (by rfl) (by rfl) ?_
 refine c8 (by rfl) (by rfl) ?_
 refine c8 (by rfl) (by rfl) ?_
 refine c8 (by rfl) (by rfl) ?_
 exact q
end
end
variable {B : Nat}
section
structure LS (T : cN) (m : Int) (B : Nat) (S : cW) (σ : ag) : Prop where
 rr : RR T 14 m S σ
 ai : AI T m S
 vR : S.aS = []
 dp : S.da = 0
 lk : S.a9 <= B
 nl : S.az.length <= B
 tw : S.cU = .none \/ ∃ k ax, S.cU = .ref k /\ RR T k 3 ax σ /\ AI T 3 ax /\ ax.aS = [] /\ ax.da = 0 /\ ax.a9 <= B /\ ax.tr = k + 4 /\ 22 < k /\ (S.tr < k \/ k + 7 < S.tr)
def vB (S : cW) (a : Nat) : Prop := (a < 5 \/ 10 < a) /\ Hj 14 S.tr a /\ ∀ k, S.cU = .ref k -> a < k \/ k + 7 < a
structure LF (S : cW) (σ : ag) (S' : cW) (σ' : ag) : Prop where
 len : σ.length <= σ'.length
 old : ∀ (a : Nat) o, σ[a]? = some o -> vB S a -> σ'[a]? = some o
 tr : S'.tr = S.tr \/ σ.length <= S'.tr
 cU : S'.cU = S.cU \/ S.cU = .none /\ ∃ k, S'.cU = .ref k /\ σ.length <= k
 aw : S'.aw = S.aw
 dW : S'.dW = S.dW
section
variable {S : cW}
theorem LF.refl : LF S σ S σ := ⟨Nat.le_refl _, fun _ _ h _ => h, .inl rfl, .inl rfl, rfl, rfl⟩
theorem vB.aY (x : LF S σ S' σ') {a : Nat} (fP : a < σ.length) (f : vB S a) : vB S' a := by
 obtain ⟨f1, ⟨g1, g2, g3, g4, g5⟩, f3⟩ := f
 refine ⟨f1, ⟨g1, g2, g3, g4, ?_⟩, fun k hk => ?_⟩
 ·rcases x.tr with e | e
  ·rw [e]; exact g5
  ·lia
 ·rcases x.cU with e | ⟨_, k', e, JZ⟩
  ·exact f3 k (e ▸ hk)
  ·rw [e] at hk; cases hk; lia
theorem LF.trans (x : LF S σ S' σ') (y : LF S' σ' l5 cy) : LF S σ l5 cy where
 len := Nat.le_trans x.len y.len
 old a o e f := y.old a o (x.old a o e f) (f.aY x (dX e))
 tr := by
  rcases y.tr with e | e
  ·rw [e]; exact x.tr
  ·exact .inr (Nat.le_trans x.len e)
 cU := by
  rcases y.cU with e | ⟨e1, k, e2, e3⟩
  ·rw [e]; exact x.cU
  ·rcases x.cU with e | ⟨_, k', e, _⟩
   ·rw [e] at e1; exact .inr ⟨e1, k, e2, Nat.le_trans x.len e3⟩
   ·rw [e] at e1; cases e1
 aw := y.aw.trans x.aw
 dW := y.dW.trans x.dW
theorem Fr.lf (x : Fr σ σ') : LF S σ S σ' := ⟨x.len, fun a o h f => x.old a o h f.1, .inl rfl, .inl rfl, rfl, rfl⟩
theorem aV.lf (x : aV σ σ') : LF S σ S σ' := x.fr.lf
theorem TR.C2 (R : TR T σ) {s i b : Nat} (h : T.ak[s]? = some (.ae [.int 10, .int i])) (hb : T.ao[i]? = some (.int b)) : b < s := by
 obtain ⟨j, c, e1, e2, e3⟩ := R.rM s _ h
 cases Int.ofNat.inj (V.int.inj e1)
 rw [hb] at e2
 cases e2
 lia
theorem bb.KU (x : bb c T T') {t : Nat} {r : V} (h : T'.ak[t]? = some r) (fP : t < T.ak.length) : T.ak[t]? = some r := by
 obtain ⟨l, e⟩ := x.ak
 rw [<- e, List.getElem?_append_left fP] at h; exact h
theorem Up.ext (R : TR T σ) (x : bb c T T') {s u : Nat} (hs : s < T.ak.length) : Up T s u <-> Up T' s u := by
 constructor
 ·intro h
  induction h with
  | refl => exact .refl
  | step h1 h2 _ ih => exact .step (x.row h1) (x.bound h2) (ih (Nat.lt_trans (R.C2 h1 h2) hs))
 ·intro h
  induction h with
  | refl => exact .refl
  | step h1 h2 _ ih =>
   have h1 := x.KU h1 hs
   obtain ⟨j, c, e1, e2, e3⟩ := R.rM _ _ h1
   cases Int.ofNat.inj (V.int.inj e1)
   have e4 := x.bound e2
   rw [h2] at e4
   cases e4
   exact .step h1 e2 (ih (by lia))
theorem yR.ext (R : TR T σ) (x : bb c T T') (hs : s < T.ak.length) (ht : t < T.ak.length) : yR T m s t <-> yR T' m s t := by
 unfold yR
 refine and_congr Iff.rfl (exists_congr fun u => and_congr (Up.ext R x hs) (or_congr Iff.rfl (exists_congr fun ps => and_congr ⟨fun h => x.row h, fun h => x.KU h ht⟩ Iff.rfl)))
theorem AI.ext (R : TR T σ) (x : bb c T T') (A : AI T m S) : AI T' m S := by
 refine ⟨fun k v h => ?_, A.G5, A.dF, A.nd⟩
 obtain ⟨b, e, s, t, e2, h1, h2, h3⟩ := A.bw k v h
 have hl : T.ak.length <= T'.ak.length := x.ak.length_le
 exact ⟨b, e, s, t, e2, by lia, by lia, h3.trans (yR.ext R x h1 h2)⟩
theorem RR.ts (R : RR T n m S σ) (x : TS c T σ T' σ') : RR T' n m S σ' := by
 have z : ∀ {a : Nat} {o : aN}, σ[a]? = some o -> 10 < a -> σ'[a]? = some o := fun h g => x.fr.old _ _ h (.inr g)
 have g : ∀ i, 10 < n + i := fun i => Nat.lt_trans (by decide) (R.gt i)
 exact { R with aO := x.tr, cO := z R.cO (g 0), dF := z R.dF (g 2), kn := z R.kn (g 3), tr := z R.tr R.HB, no := z R.no (g 6), nr := z R.nr (g 7), cu := z R.cu (by decide), eM := z R.eM (by decide), rule := z R.rule (by decide) }
theorem LS.ts (L : LS T m B S σ) (x : TS c T σ T' σ') : LS T' m B S σ' :=
 ⟨L.rr.ts x, L.ai.ext L.rr.aO x.ext, L.vR, L.dp, L.lk, L.nl, L.tw.imp id fun ⟨k, ax, e, R, A, r⟩ => ⟨k, ax, e, R.ts x, A.ext R.aO x.ext, r⟩⟩
theorem LS.keep (L : LS T m B S σ) (x : aV σ σ') : LS T m B S σ' := L.ts (c := 0) ⟨L.rr.aO.keep x, .refl, x.fr⟩
theorem LS.up (L : LS T m B S σ) (h : B <= c) : LS T m c S σ :=
 ⟨L.rr, L.ai, L.vR, L.dp, Nat.le_trans L.lk h, Nat.le_trans L.nl h, L.tw.imp id fun t => t.imp fun _ t => t.imp fun _ p => ⟨p.1, p.2.1, p.2.2.1, p.2.2.2.1, p.2.2.2.2.1, Nat.le_trans p.2.2.2.2.2.1 h, p.2.2.2.2.2.2⟩⟩
theorem RR.af {k : Nat} {ax : cW} {m' : Int} (R : RR T k m' ax σ) (x : AF n tr σ σ') (T2 : TR T σ') (h1 : ∀ i, i < 8 -> Hj n tr (k + i)) (h2 : Hj n tr ax.tr) (h3 : ∀ a, a = 13 \/ a = 15 \/ a = 22 -> Hj n tr a) : RR T k m' ax σ' :=
 ⟨T2, x.old _ _ R.cO (h1 0 (by decide)), x.old _ _ R.dF (h1 2 (by decide)), x.old _ _ R.kn (h1 3 (by decide)), x.old _ _ R.tr h2, x.old _ _ R.no (h1 6 (by decide)), x.old _ _ R.nr (h1 7 (by decide)), x.old _ _ R.cu (h3 13 (.inl rfl)), x.old _ _ R.eM (h3 15 (.inr (.inl rfl))), x.old _ _ R.rule (h3 22 (.inr (.inr rfl))), R.gX, R.nC⟩
theorem LS.EC (R : RR T 14 m S σ) {k : Nat} (hk : 22 < k) (ht : S.tr < k \/ k + 7 < S.tr) : (∀ i, i < 8 -> Hj 14 S.tr (k + i)) /\ ∀ a, a = 13 \/ a = 15 \/ a = 22 -> Hj 14 S.tr a := by
 refine ⟨fun i hi => ⟨by lia, by lia, by lia, by lia, by lia⟩, fun a ha => ⟨by lia, by lia, by lia, by lia, ?_⟩⟩
 rcases R.nC with e | e <;> lia
theorem LS.ask (L : LS T m B S σ) (K : bH T 14 m s t v c h) (hd : 10 * h <= d) (hB : B + c <= 20000) (hh : h <= 60)
  (q : ∀ S' σ', LS T m (B + c) S' σ' -> LF S σ S' σ' -> S'.az = S.az -> Q (.bool v) σ') : cl (d + 1) 39 [.ref 14, .int s, .int t] σ Q := by
 refine lX (K.ask d σ S Q hd L.rr L.ai (fun x hx => by rw [L.vR] at hx; cases hx) (by have := L.lk; lia) (by rw [L.dp]; lia) fun S' σ' X O => ?_)
 have nC : S'.aS = [] /\ (S'.tr = S.tr \/ σ.length <= S'.tr) := by
  cases v with
  | false => exact ⟨(O.1 rfl).2.trans L.vR, .inl (O.1 rfl).1⟩
  | true => exact (O.2 rfl).1 L.vR
 refine q S' σ' ⟨X.rr, X.ai, nC.1, X.da.trans L.dp, Nat.le_trans X.a9.2 (Nat.add_le_add_right L.lk c), by rw [X.az]; exact Nat.le_trans L.nl (Nat.le_add_right _ _), ?_⟩
  ⟨X.fr.len, fun a o e f => X.fr.old a o e f.2.1, nC.2, .inl X.cU, X.aw, X.dW⟩ X.az
 rw [X.cU]
 refine L.tw.imp id fun ⟨k, ax, e, R, A, r1, r2, r3, r4, r5, r6⟩ => ?_
 obtain ⟨o1, o2⟩ := LS.EC L.rr r5 r6
 have hk : k + 7 < σ.length := (dX R.nr)
 exact ⟨k, ax, e, R.af X.fr X.rr.aO o1 (by rw [r4]; exact o1 4 (by decide)) o2, A, r1, r2, by lia, r4, r5, by rcases nC.2 with g | g <;> lia⟩
theorem LS.tU (L : LS T m B S σ) {x : Int} (hB : B < 900000) (q : ∀ S' σ', LS T m (B + 1) S' σ' -> LF S σ S' σ' -> S'.az = (if S.aw then S.az ++ [.ae [.int x, .int S.dW]] else S.az) -> Q .none σ') : cl (d + 2) 40 [.ref 14, .int x] σ Q := by
 have DG := L.nl
 refine ED L.rr (by lia) fun σ' R F => ?_
 refine q _ σ' ⟨R, ⟨L.ai.bw, L.ai.G5, L.ai.dF, L.ai.nd⟩, L.vR, L.dp, Nat.le_succ_of_le L.lk, ?_, ?_⟩ ⟨F.len, fun a o e f => F.old a o e f.2.1, .inl rfl, .inl rfl, rfl, rfl⟩ rfl
 ·show (if S.aw then S.az ++ [.ae [.int x, .int S.dW]] else S.az).length <= B + 1
  split
  ·rw [List.length_append]; exact Nat.succ_le_succ DG
  ·lia
 ·refine L.tw.imp id fun ⟨k, ax, e, R2, A, r1, r2, r3, r4, r5, r6⟩ => ?_
  obtain ⟨o1, o2⟩ := LS.EC L.rr r5 r6
  exact ⟨k, ax, e, R2.af F R.aO o1 (by rw [r4]; exact o1 4 (by decide)) o2, A, r1, r2, by lia, r4, r5, r6⟩
end
end
section
section
variable {S : cW}
theorem zC {k : Nat} {ax : cW} (R : RR T k 3 ax σ) (A : AI T 3 ax) (h0 : ax.aS = []) (hl : ax.a9 < 20000) (hd : ax.da < 60) (hs : T.ak[s]? = some (.ae (.int 15 :: ra))) (ht : T.ak[t]? = some (.ae [.int 6, .ae ps])) (st : s ≠ t) (JS : s ≠ 13) (DC : t ≠ 13)
  (q : ∀ S' σ', AR T k 3 ax σ S' σ' 1 -> DB ax S' -> Q (.bool false) σ') : cl (d + 4) 48 [.ref k, .int s, .int t] σ Q := by
 have h := R.cO
 have hh := R.cu
 have h4 := R.aO.aO
 have HL : ¬((s : Int) = t) := fun e => st (Int.ofNat.inj e)
 refine hS ?_
 cbv
 refine aj (fun e => absurd e HL) (fun _ => ?_)
 cbv
 refine g0 R hs (bM (by decide)) ?_
 cbv
 refine g0 R ht (bM (by decide)) ?_
 cbv
 refine aj (fun e => absurd e HL) (fun _ => ?_)
 cbv
 refine aj (fun e => absurd (Int.ofNat.inj e) JS) (fun _ => ?_)
 cbv
 refine aj (fun e => absurd (Int.ofNat.inj e) DC) (fun _ => ?_)
 cbv
 refine aG (aI R.aO hs) ?_
 cbv
 refine aG (aI R.aO ht) ?_
 cbv
 refine yo (v := false) (d := d) (c := 0) R A (R.aO.lt hs) (R.aO.lt ht) ⟨(fun e => nomatch e), fun e => absurd rfl e.1⟩ (by rw [h0]; exact fun e => nomatch e) hl hd (fun ab vy JP Q' kk => ?_) (by lia) fun S' σ' X O => q S' σ' X (O.1 rfl)
 rw [if_pos rfl]
 have h := vy.cO
 have hh := vy.cu
 have h4 := vy.aO.aO
 refine r0 ?_
 cbv
 refine aG (aI vy.aO hs) ?_
 cbv
 refine aG (aI vy.aO ht) ?_
 cbv
 exact kk _ _ (AR.refl vy JP) .refl
structure Dm (T : cN) (B : Nat) (S : cW) (σ : ag) (k : Nat) (ax : cW) : Prop where
 Sf : S.cU = .ref k
 rr : RR T k 3 ax σ
 ai : AI T 3 ax
 vR : ax.aS = []
 dp : ax.da = 0
 lk : ax.a9 <= B
 tr : ax.tr = k + 4
 gX : 22 < k
 KG : S.tr < k \/ k + 7 < S.tr
theorem LS.cU (L : LS T m B S σ) (hm : m ≠ 3) (q : ∀ S' σ' k ax, LS T m B S' σ' -> LF S σ S' σ' -> S'.az = S.az -> Dm T B S' σ' k ax -> Q (.ref k) σ') : cl (d + 4) 45 [.ref 14] σ Q := by
 have h : σ[14]? = some (.aF 3 (bj 14 m S)) := L.rr.cO
 refine wU ?_
 cbv
 refine aj (fun e => absurd e hm) (fun _ => ?_)
 cbv
 rcases L.tw with e | ⟨k, ax, e, R, A, r1, r2, r3, r4, r5, r6⟩
 ·refine aj (fun _ => ?_) (fun e2 => absurd e e2)
  cbv
  refine oo ?_
  cbv
  refine xZ ?_
  have hk : 22 < σ.length := (dX L.rr.rule)
  have nC : S.tr < σ.length := (dX L.rr.tr)
  have K : ∀ p, aV σ (σ ++ p :: nu σ.length) := fun p => ⟨by rw [List.length_append]; lia, fun a o h => by rw [List.getElem?_append_left (dX h)]; exact h⟩
  have h := (K (.aF 3 (t4 σ.length 3))).old _ _ h
  unfold eB
  cbv
  refine jt (sa (cF 0) (Nat.le_of_ble_eq_true rfl)) ?_
  rw [rD]
  cbv
  refine jt (sa (cF 0) (Nat.le_of_ble_eq_true rfl)) ?_
  rw [rD]
  cbv
  have R2 : RR T σ.length 3 ⟨σ.length + 4, [], [], [], 0, 0, [], false, .none, 0⟩ (σ ++ .aF 3 (bj σ.length 3 ⟨σ.length + 4, [], [], [], 0, 0, [], false, .none, 0⟩) :: nu σ.length) :=
   have KK := K (.aF 3 (bj σ.length 3 ⟨σ.length + 4, [], [], [], 0, 0, [], false, .none, 0⟩))
   ⟨L.rr.aO.keep KK, cF 0, cF 2, cF 3, cF 4, cF 6, cF 7, KK.old _ _ L.rr.cu, KK.old _ _ L.rr.eM, KK.old _ _ L.rr.rule, .inr hk, .inl rfl⟩
  have L1 := L.keep (K (.aF 3 (bj σ.length 3 ⟨σ.length + 4, [], [], [], 0, 0, [], false, .none, 0⟩)))
  have KL := (K (.aF 3 (bj σ.length 3 ⟨σ.length + 4, [], [], [], 0, 0, [], false, .none, 0⟩))).len
  have F1 : AF 14 S.tr σ (σ ++ .aF 3 (bj σ.length 3 ⟨σ.length + 4, [], [], [], 0, 0, [], false, .none, 0⟩) :: nu σ.length) := (K (.aF 3 (bj σ.length 3 ⟨σ.length + 4, [], [], [], 0, 0, [], false, .none, 0⟩))).af
  refine RR.sa L1.rr { S with cU := .ref σ.length } ⟨rfl, rfl, rfl, rfl, rfl⟩ (by rfl) fun ah R3 F3 => ?_
  have F2 := F1.trans (F3 S.tr) (.inl rfl)
  obtain ⟨o1, o2⟩ := LS.EC L.rr hk (.inl nC)
  have R4 := R2.af (F3 S.tr) R3.aO o1 (o1 4 (by decide)) o2
  have A2 : AI T 3 ⟨σ.length + 4, [], [], [], 0, 0, [], false, .none, 0⟩ := ⟨fun _ _ h => (nomatch h), Nat.le_refl _, rfl, .nil⟩
  have tw : Dm T B { S with cU := .ref σ.length } ah σ.length ⟨σ.length + 4, [], [], [], 0, 0, [], false, .none, 0⟩ := ⟨rfl, R4, A2, rfl, rfl, Nat.zero_le _, rfl, hk, .inl nC⟩
  have h := R3.cO
  cbv
  exact q _ _ σ.length _ ⟨R3, ⟨L.ai.bw, L.ai.G5, L.ai.dF, L.ai.nd⟩, L.vR, L.dp, L.lk, L.nl, .inr ⟨_, _, rfl, R4, A2, rfl, rfl, Nat.zero_le _, rfl, hk, .inl nC⟩⟩
   ⟨F2.len, fun a o e f => F2.old a o e f.2.1, .inl rfl, .inr ⟨e, _, rfl, Nat.le_refl _⟩, rfl, rfl⟩ rfl tw
 ·refine aj (fun e2 => absurd (e.symm.trans e2) (fun e => nomatch e)) (fun _ => ?_)
  cbv
  have z := q S σ k ax L .refl rfl ⟨e, R, A, r1, r2, r3, r4, r5, r6⟩
  rw [<- e] at z
  exact z
end
end
section
section
variable {S : cW}
theorem LS.same (L : LS T m B S σ) (hm : m ≠ 3) (hB : B < 20000) (hs : T.ak[s]? = some (.ae (.int 15 :: ra))) (ht : T.ak[t]? = some (.ae [.int 6, .ae ps])) (st : s ≠ t) (JS : s ≠ 13) (DC : t ≠ 13)
  (q : ∀ S' σ', LS T m (B + 1) S' σ' -> LF S σ S' σ' -> S'.az = S.az -> Q (.bool false) σ') : cl (d + 6) 41 [.ref 14, .int s, .int t] σ Q := by
 have HL : ¬((s : Int) = t) := fun e => st (Int.ofNat.inj e)
 refine uC ?_
 cbv
 refine aj (fun e => absurd e HL) (fun _ => ?_)
 cbv
 refine L.cU hm fun aU ab k ax L1 F1 e1 W1 => ?_
 have h := W1.rr.cO
 cbv
 refine lX ?_
 refine zC W1.rr W1.ai W1.vR (by have := W1.lk; lia) (by rw [W1.dp]; decide) hs ht st JS DC fun cG aA X g => ?_
 cbv
 have hk := W1.gX
 have Pc := W1.KG
 have Vv := L1.rr.nC
 have hX : AF k (k + 4) ab aA := by rw [<- W1.tr]; exact X.fr
 have R1 : RR T 14 m aU aA := L1.rr.af hX X.rr.aO (fun i hi => ⟨by lia, by lia, by lia, by lia, by lia⟩) ⟨by lia, by lia, by lia, by lia, by lia⟩ (fun a ha => ⟨by lia, by lia, by lia, by lia, by lia⟩)
 refine q aU aA ⟨R1, L1.ai, L1.vR, L1.dp, Nat.le_succ_of_le L1.lk, Nat.le_succ_of_le L1.nl, .inr ⟨k, cG, W1.Sf, X.rr, X.ai, g.2.trans W1.vR, X.da.trans W1.dp, by have := X.a9.2; have := W1.lk; lia, g.1.trans W1.tr, hk, Pc⟩⟩
  (F1.trans ⟨hX.len, fun a o e f => hX.old a o e ?_, .inl rfl, .inl rfl, rfl, rfl⟩) e1
 have := f.2.2 k W1.Sf
 exact ⟨by lia, by lia, by lia, by lia, by lia⟩
theorem LS.Kj (L : LS T m B S σ) (hm : m ≠ 3) (hB : B < 20000) (hs : T.ak[s]? = some (.ae (.int 15 :: ra))) (ht : T.ak[t]? = some (.ae [.int 6, .ae ps])) (st : s ≠ t) (JS : s ≠ 13) (DC : t ≠ 13)
  (q : ∀ S' σ', LS T m (B + 2) S' σ' -> LF S σ S' σ' -> S'.az = (if S.aw = true /\ m = 1 then S.az ++ [.ae [.int 3, .int S.dW]] else S.az) -> Q .none σ') : cl (d + 7) 52 [.ref 14, .int s, .int t] σ Q := by
 have h : σ[14]? = some (.aF 3 (bj 14 m S)) := L.rr.cO
 refine om ?_
 cbv
 refine Bb L.rr ?_
 refine jV (fun e => ?_) (fun e => ?_)
 ·rw [Bool.and_eq_true, decide_eq_true_eq] at e
  rw [if_pos e] at q
  cbv
  refine bF (fun _ => ?_) (fun e => absurd (Int.ofNat.inj e) JS)
  cbv
  refine bF (fun _ => ?_) (fun e => absurd (Int.ofNat.inj e) DC)
  cbv
  refine L.same hm hB hs ht st JS DC fun aU ab L1 F1 e1 => ?_
  have h : ab[14]? = some (.aF 3 (bj 14 m aU)) := L1.rr.cO
  cbv
  refine L1.tU (d := d + 4) (by lia) fun ax ah L2 F2 e2 => ?_
  cbv
  refine q ax ah L2 (F1.trans F2) ?_
  rw [e2, F1.aw, if_pos e.1, e1, F1.dW]
 ·rw [if_neg (fun g => by rw [g.1, decide_eq_true g.2] at e; cases e)] at q
  rw [e]
  cbv
  exact q S σ (L.up (by lia)) .refl rfl
end
end
variable {es : List j7} {c0 c1 : Option Nat}
section
structure j7 where
 name : Nat
 Td : Nat
 free : Bool
 aT : Bool
noncomputable def j7.jl (e : j7) : V := .ae [.str e.name, .int e.Td, .int ((if e.free then 1 else 0) + (if e.aT then 2 else 0)), .int 0]
noncomputable def cell : Option Nat -> V
 | none => .ae []
 | some k => .ae [.int k, .int 0]
noncomputable def cf (es : List j7) (c0 c1 : Option Nat) : V := .ae [.int 8, .ae (es.map j7.jl), .ae [], .ae [], cell c0, cell c1, .int 0]
noncomputable abbrev Sh := Option (List j7 × Option Nat × Option Nat)
def Dp (T : cN) (σ : ag) (s w : Nat) : Prop := s = w \/ ∃ DK Ad kd nm a b, T.ak[s]? = some (.ae [.int 9, .int (DK : Nat), .ae []]) /\ T.aK[DK]? = some (.ref Ad) /\ σ[Ad]? = some (.aF 1 (fL DK kd nm (.int w) a b))
noncomputable def cj (S : cW) (l : List Int) : List V := if S.aw then S.az ++ l.map (fun c => .ae [.int c, .int S.dW]) else S.az
section
variable {S : cW} {w own bC : Nat}
theorem dA : cj S [] = S.az := by unfold cj; rw [List.map_nil, List.append_nil, ite_self]
theorem eA {l l' : List Int} (h1 : S'.aw = S.aw) (h2 : S'.dW = S.dW) (h : S'.az = cj S l) : cj S' l' = cj S (l ++ l') := by
 unfold cj at h ⊢
 rw [h1, h2, h]
 split
 ·rw [List.map_append, List.append_assoc]
 ·rfl
theorem nW {row : V} (R : TR T σ) (h : T.ak[t]? = some row) (q : Q (.int t) σ) : cl (d + 1) 3 [.ref 4, row] σ Q := by
 have h4 := R.aO
 have hk := R.a5 row (List.mem_of_getElem? h)
 have hg := nB 0 T.ak R.nodup t row h
 rw [Nat.zero_add] at hg
 refine eD ?_
 cbv
 refine dD (cK R.ib hk) (iI (by rw [hg]; rfl) ?_)
 cbv
 refine aG (sH R.ib hk hg) ?_
 cbv
 exact q
theorem TR.inj (R : TR T σ) {x y : Nat} {r : V} (h1 : T.ak[x]? = some r) (h2 : T.ak[y]? = some r) : x = y :=
 (List.getElem?_inj (R.lt h1) R.nodup).mp (h1.trans h2.symm)
theorem gx {row : V} (R : RR T n m S σ) (h : T.ak[t]? = some row) (q : Q (.int t) σ) : cl (d + 2) 37 [.ref 13, row] σ Q := by
 have hh := R.cu
 have h4 := R.aO.aO
 refine iL ?_
 cbv
 exact nW R.aO h q
theorem iF {i : Nat} (R : TR T σ) (h : T.ak[t]? = some (.ae [.int 10, .int i])) (q : Q (.int t) σ) : cl (d + 2) 61 [.ref 4, .int i] σ Q := by
 have h4 := R.aO
 refine r9 ?_
 cbv
 exact nW (row := .ae [.int 10, .int i]) R h q
theorem nS (R : RR T n m S σ) (hw : T.ak[w]? = some (.ae (.int 8 :: ra))) (h : Dp T σ s w) (q : Q (.int w) σ) : cl (d + 2) 77 [.ref 13, .int s] σ Q := by
 have hh := R.cu
 have h4 := R.aO.aO
 refine jU ?_
 cbv
 refine ou ?_
 refine cT.mk (fun z l xs ρ σ' => z = .pH /\ σ' = σ /\ ∃ y u g, ρ = [some (.ref 4), some (.int (g : Nat)), u, y] /\ ((xs = fB 40 /\ g = s) \/ (xs.length = 39 /\ g = w))) (?_) ?_ ?_
 ·cbv
  exact ⟨by decide, rfl, rfl, _, _, s, rfl, .inl ⟨rfl, rfl⟩⟩
 ·rintro z l x xs ρ ab ⟨rfl, rfl, y, u, g, rfl, hx⟩
  have Mh : g = w \/ (xs.length = 39 /\ ∃ DK Ad kd nm a b, T.ak[g]? = some (.ae [.int 9, .int (DK : Nat), .ae []]) /\ T.aK[DK]? = some (.ref Ad) /\ ab[Ad]? = some (.aF 1 (fL DK kd nm (.int w) a b))) := by
   rcases hx with ⟨hx, rfl⟩ | ⟨_, hx⟩
   ·rcases h with h | h
    ·exact .inl h
    ·exact .inr ⟨by have := congrArg List.length hx; rw [List.length_cons, show (fB 40).length = 40 from rfl] at this; lia, h⟩
   ·exact .inl hx
  rcases Mh with rfl | ⟨hx, DK, Ad, kd, nm, a, b, h1, h2, h3⟩
  ·cbv
   cbv
   refine aG (aI R.aO hw) ?_
   cbv
   exact q
  ·cbv
   cbv
   refine aG (aI R.aO h1) ?_
   cbv
   refine aG (cD R.aO.aK (fh h2)) ?_
   cbv
   refine aG (cD R.aO.aK (fh h2)) ?_
   cbv
   exact ⟨trivial, rfl, rfl, _, _, w, rfl, .inr ⟨hx, rfl⟩⟩
 ·rintro z l ρ ab ⟨rfl, rfl, y, u, g, rfl, hx⟩
  exfalso
  rcases hx with ⟨hx, _⟩ | ⟨hx, _⟩
  ·exact absurd (congrArg List.length hx) (by decide)
  ·exact absurd hx (by decide)
theorem yH {x y : V} (hx : V.a5 6 x = true) (hy : V.a5 6 y = true) (hk : ∃ l, x = .ae l) : zX .eq x y = some (decide (x = y)) := by
 obtain ⟨l, rfl⟩ := hk
 exact if_pos ⟨hx, hy⟩
set_option tactic.hygienic true in
theorem EI {x : V} (h : x.kind = some .ae) : V.a5 6 x = true /\ ∃ l, x = .ae l := by
 cases x <;> try (cases h; done)
 rename_i l
 refine ⟨?_, l, rfl⟩
 have h : (if V.a5 6 (.ae l) then some KK.ae else none) = some KK.ae := h
 split at h
 ·assumption
 ·cases h
theorem ue {x : Nat} {kk : Int} {rk : List V} (R : TR T σ) (hk : T.ak[bC]? = some (.ae (.int kk :: rk))) (hx : kk = 7 /\ (∃ l, rk = [.ae (.int x :: l)]) \/ kk ≠ 7 /\ x = bC) (ho : T.ak[own]? = some (.ae [.int 14, .int s])) (hl : x < T.ak.length)
  (q : Q (.bool (decide (x = own))) σ) : cl (d + 1) 69 [.ref 4, .int s, .int bC] σ Q := by
 have h4 := R.aO
 have hr := List.getElem?_eq_getElem hl
 have go : zX .eq T.ak[x] (.ae [.int 14, .int s]) = some (decide (x = own)) := by
  have hn := EI (R.a5 _ (List.mem_of_getElem? hr))
  rw [yH hn.1 rfl hn.2]
  congr 1
  refine decide_eq_decide.mpr ⟨fun e => R.inj hr (e ▸ ho), fun e => ?_⟩
  subst e
  rw [hr] at ho
  exact Option.some.inj ho
 refine oC ?_
 cbv
 refine aG (aI R hk) ?_
 cbv
 refine aj (fun e => ?_) (fun e => ?_)
 ·rcases hx with ⟨_, l, rfl⟩ | ⟨h, _⟩
  ·cbv
   refine aG (aI R hr) ?_
   cbv
   exact ir go q
  ·exact absurd e h
 ·rcases hx with ⟨h, _⟩ | ⟨_, rfl⟩
  ·exact absurd h e
  ·cbv
   refine aG (aI R hr) ?_
   cbv
   exact ir go q
def dU (T : cN) (σ : ag) (s : Nat) (sh : Sh) : Prop := match sh with
 | some (es, c0, c1) => ∃ w k r, T.ak[s]? = some (.ae (.int k :: r)) /\ (k = 8 \/ k = 9) /\ T.ak[w]? = some (cf es c0 c1) /\ Dp T σ s w
 | none => ∃ k r, T.ak[s]? = some (.ae (.int k :: r)) /\ (k = 7 \/ k = 10 \/ k = 15 \/ k = 17)
noncomputable def fY : Sh -> Bool
 | some (es, _, _) => es.any (·.aT)
 | none => true
theorem Fq (e : j7) : Builtin.bitAnd ((if e.free then 1 else 0) + (if e.aT then 2 else 0)) 2 = if e.aT then 2 else 0 := by
 cases e.free <;> cases e.aT <;> decide
theorem CG (b : Bool) : (!decide ((if b then 2 else 0 : Int) = 0)) = b := by cases b <;> rfl
theorem md : ∀ (es : List j7), dq (es.map fun e => V.bool e.aT) = some (es.map (·.aT))
 | [] => rfl
 | e :: es => by
  show Option.map _ (dq (es.map fun e => V.bool e.aT)) = _
  rw [md es]; rfl
theorem mj {sh : Sh} (R : RR T n m S σ) (h : dU T σ s sh) (hl : ∀ es c0 c1, sh = some (es, c0, c1) -> es.length < 1000) (q : ∀ σ', aV σ σ' -> Q (.bool (fY sh)) σ') : cl (d + 3) 71 [.ref 13, .int s] σ Q := by
 have hh := R.cu
 have h4 := R.aO.aO
 refine mV ?_
 cbv
 cases sh with
 | none =>
  obtain ⟨k, r, hs, hk⟩ := h
  refine aG (aI R.aO hs) ?_
  cbv
  refine bF (fun _ => ?_) (fun e => ?_)
  ·cbv
   exact q σ .refl
  ·exfalso
   simp only [List.mem_cons, V.int.injEq, List.not_mem_nil, or_false] at e
   lia
 | some x =>
  obtain ⟨es, c0, c1⟩ := x
  obtain ⟨w, k, r, hs, hk, hw, hsh⟩ := h
  refine aG (aI R.aO hs) ?_
  cbv
  refine bF (fun e => ?_) (fun _ => ?_)
  ·exact absurd (gp (l := [8, 9]).mpr (by simpa using hk)) e
  ·cbv
   refine c6.cv j7.jl (.seq (.ae (es.map j7.jl))) (es.map j7.jl) es (fun dn => dn.map fun e => .bool e.aT) (fun _ _ σ' => σ = σ') ?_ ?_ ?_
   ·cbv
    refine nS R hw hsh ?_
    refine aG (aI R.aO hw) ?_
    cbv
    exact .cn rfl rfl rfl
   ·rintro dn e td _ he rfl
    cbv
    refine ⟨rfl, .next he ?_ rfl⟩
    rw [List.map_append, Fq]; exact congrArg (fun b => _ ++ [V.bool b]) (CG e.aT)
   ·rintro _ rfl
    refine ⟨by rw [List.length_map]; have := hl es c0 c1 rfl; lia, ?_⟩
    refine Dg (bs := es.map (·.aT)) ay (md es) ?_
    rw [List.any_map]
    exact q _ .push
end
end
variable {ow : Nat} {sh : Sh}
section
noncomputable def dR : Sh -> Bool
 | some (_, c0, c1) => c0.isSome || c1.isSome
 | none => true
section
variable {S : cW} {w bC : Nat}
theorem eY {c : Cl} {g : E} {A B : Env -> ag -> PF -> Prop} {ρ : Env} {Φ : PF} (J : ag -> Prop) (h : (∀ σ', J σ' -> Φ .next ρ σ') -> wE c g ρ σ (IU A B ρ Φ)) (k : ∀ σ', J σ' -> Φ .next ρ σ') : wE c g ρ σ (IU A B ρ Φ) := h k
theorem Hn {c : Cl} {g : E} {A B : Env -> ag -> PF -> Prop} {ρ : Env} {Φ : PF} (J : ag -> Prop) (h : (∀ DM σ', J σ' -> Φ .next DM σ') -> wE c g ρ σ (IU A B ρ Φ)) (k : ∀ DM σ', J σ' -> Φ .next DM σ') : wE c g ρ σ (IU A B ρ Φ) := h k
theorem Av {c : Cl} {e : E} {ρ : Env} (v : V) (h : Q v σ -> wE c e ρ σ Q) (k : Q v σ) : wE c e ρ σ Q := h k
theorem N0 (c : Option Nat) : zX .eq (cell c) (.ae []) = some (!c.isSome) := by cases c <;> rfl
theorem LS.ib (L : LS T m B S σ) (hB : B < 900000) (ho : T.ak[ow]? = some (.ae [.int 14, .int s])) (hs : dU T σ s sh)
  (q : ∀ S' σ', LS T m (B + 1) S' σ' -> LF S σ S' σ' -> S'.az = cj S (if bC ≠ ow /\ dR sh = true then [5] else []) -> Q .none σ') : cl (d + 3) 68 [.ref 14, .int s, .int bC] σ Q := by
 have h : σ[14]? = some (.aF 3 (bj 14 m S)) := L.rr.cO
 have hh := L.rr.cu
 have h4 := L.rr.aO.aO
 refine oD ?_
 cbv
 refine gx (row := .ae [.int 14, .int s]) L.rr ho ?_
 cbv
 refine aj (fun e => ?_) (fun e => ?_)
 ·skip
  exact q S σ (L.up (by lia)) .refl (by rw [if_neg (fun g => g.1 (Int.ofNat.inj e)), dA])
 ·have e' : bC ≠ ow := fun g => e (by rw [g])
  cbv
  cases sh with
  | none =>
   rw [if_pos ⟨e', rfl⟩] at q
   obtain ⟨k, r, hs, hk⟩ := hs
   refine aG (aI L.rr.aO hs) ?_
   cbv
   refine aj (fun e => ?_) (fun _ => ?_)
   ·exfalso
    simp only [List.mem_cons, V.int.injEq, List.not_mem_nil, or_false] at e
    lia
   ·cbv
    exact L.tU (d := d) hB fun S' σ' L' F' e => (q S' σ' L' F' e)
  | some x =>
   obtain ⟨es, c0, c1⟩ := x
   obtain ⟨w, k, r, hs, hk, hw, hsh⟩ := hs
   refine aG (aI L.rr.aO hs) ?_
   cbv
   refine aj (fun _ => ?_) (fun e => absurd (gp (l := [8, 9]).mpr (by simpa using hk)) e)
   cbv
   refine nS L.rr hw hsh ?_
   refine aG (aI L.rr.aO hw) ?_
   cbv
   cases c0 with
   | some k0 =>
    rw [if_pos ⟨e', rfl⟩] at q
    cbv
    exact L.tU (d := d) hB fun S' σ' L' F' e => (q S' σ' L' F' e)
   | none =>
    cbv
    cases c1 with
    | some k1 =>
     rw [if_pos ⟨e', rfl⟩] at q
     cbv
     exact L.tU (d := d) hB fun S' σ' L' F' e => (q S' σ' L' F' e)
    | none =>
     cbv
     exact q S σ (L.up (by lia)) .refl (by rw [if_neg (fun g => Bool.noConfusion g.2), dA])
noncomputable def dh (cq : V) (bC : Nat) (as : V) (x : V) (opt ro : Int) : V := .ae [.int 17, cq, .int bC, as, x, .int opt, .int ro]
theorem LS.own {c4 c3 c5 : List Int} {cq as xx : V} {opt ro : Int} {x : Nat} {kk : Int} {rk : List V} (L : LS T m B S σ) (hB : B < 800000) (ho : T.ak[ow]? = some (.ae [.int 14, .int s])) (hs : dU T σ s sh) (hf : ∀ S' σ', LF S σ S' σ' -> dU T σ' s sh) (hl : ∀ es c0 c1, sh = some (es, c0, c1) -> es.length < 1000)
  (hk : T.ak[bC]? = some (.ae (.int kk :: rk))) (hx : kk = 7 /\ (∃ l, rk = [.ae (.int x :: l)]) \/ kk ≠ 7 /\ x = bC) (LH : x < T.ak.length)
  (g4 : c4 = if ro = 2 \/ (ro = 0 /\ x ≠ ow /\ fY sh = true) then [4] else []) (g3 : c3 = if opt = 1 /\ ro ≠ 1 then [3] else []) (g5 : c5 = if opt = 0 /\ bC ≠ ow /\ dR sh = true then [5] else [])
  (q : ∀ S' σ', LS T m (B + 3) S' σ' -> LF S σ S' σ' -> S'.az = cj S (c4 ++ c3 ++ c5) -> Q (.bool true) σ') :
  cl (d + 4) 70 [.ref 14, .int s, dh cq bC as xx opt ro] σ Q := by
 have h : σ[14]? = some (.aF 3 (bj 14 m S)) := L.rr.cO
 have hh := L.rr.cu
 have h4 := L.rr.aO.aO
 unfold dh
 refine oy ?_
 refine Av (.bool (decide (ro = 0) && decide (x = ow))) (fun k => ?_) ?_
 ·cbv
  refine aj (fun e => ?_) (fun e => ?_)
  ·rw [decide_eq_true e, Bool.true_and] at k
   cbv
   exact ue L.rr.aO hk hx ho LH k
  ·rw [decide_eq_false e] at k ⊢
   exact k
 generalize I9 : (decide (ro = 0) && decide (x = ow)) = kp
 refine eY (fun ab => ∃ aU, LS T m (B + 1) aU ab /\ LF S σ aU ab /\ aU.az = cj S c4) (fun kk => ?_) ?_
 ·have Gv : ∀ ab, aV σ ab -> (ro = 2 \/ (ro = 0 /\ x ≠ ow /\ fY sh = true)) -> ∀ (d : Nat) Q', (∀ ah, (∃ aU, LS T m (B + 1) aU ah /\ LF S σ aU ah /\ aU.az = cj S c4) -> Q' V.none ah) -> cl (d + 2) 40 [.ref 14, .int 4] ab Q' := fun ab K g d Q' k => by
   refine (L.keep K).tU (d := d) (by lia) fun S' σ' L' F' e => k _ ⟨S', L', K.lf.trans F', ?_⟩
   rw [g4, if_pos g]; exact e
  have Iu : ∀ ab, aV σ ab -> ¬(ro = 2 \/ (ro = 0 /\ x ≠ ow /\ fY sh = true)) -> ∃ aU, LS T m (B + 1) aU ab /\ LF S σ aU ab /\ aU.az = cj S c4 := fun ab K g =>
   ⟨S, (L.keep K).up (by lia), K.lf, by rw [g4, if_neg g, dA]⟩
  cbv
  refine aj (fun e => ?_) (fun e2 => ?_)
  ·refine iI (decide_eq_true e) ?_
   cbv
   exact Gv σ .refl (.inl e) _ _ kk
  ·cbv
   refine aj (fun e0 => ?_) (fun e0 => ?_)
   ·cbv
    cases kp with
    | false =>
     have UZ : x ≠ ow := fun ex => by rw [decide_eq_true e0, decide_eq_true ex] at I9; cases I9
     cbv
     refine mj (d := d) L.rr hs hl fun ab K => ?_
     refine jV (fun hr => ?_) (fun hr => ?_)
     ·have h : ab[14]? = some (.aF 3 (bj 14 m S)) := K.old _ _ h
      cbv
      exact Gv ab K (.inr ⟨e0, UZ, hr⟩) _ _ kk
     ·exact kk _ (Iu ab K (fun g => g.elim e2 fun g => by rw [hr] at g; exact Bool.noConfusion g.2.2))
    | true =>
     have ex : x = ow := by rw [decide_eq_true e0, Bool.true_and] at I9; exact of_decide_eq_true I9
     exact kk _ (Iu σ .refl fun g => g.elim e2 fun g => g.2.1 ex)
   ·refine cY (decide_eq_false e0) ?_
    exact kk _ (Iu σ .refl fun g => g.elim e2 fun g => e0 g.1)
 rintro ab ⟨aU, L1, F1, e1⟩
 have h : ab[14]? = some (.aF 3 (bj 14 m aU)) := L1.rr.cO
 refine eY (fun ah => ∃ ax, LS T m (B + 2) ax ah /\ LF S σ ax ah /\ ax.az = cj S (c4 ++ c3)) (fun kk => ?_) ?_
 ·cbv
  refine aj (fun e => ?_) (fun e => ?_)
  ·cbv
   refine bF (fun e3 => ?_) (fun e3 => ?_)
   ·cbv
    refine L1.tU (d := d + 1) (by lia) fun S' σ' L' F' e4 => kk _ ⟨S', L', F1.trans F', ?_⟩
    rw [g3, if_pos ⟨e, e3⟩]
    exact e4.trans (eA (l' := [3]) F1.aw F1.dW e1)
   ·exact kk _ ⟨aU, L1.up (by lia), F1, by rw [g3, if_neg fun g => g.2 e3, List.append_nil]; exact e1⟩
  ·refine cY (decide_eq_false e) ?_
   exact kk _ ⟨aU, L1.up (by lia), F1, by rw [g3, if_neg fun g => e g.1, List.append_nil]; exact e1⟩
 rintro ah ⟨ax, L2, F2, e2⟩
 refine eY (fun aA => ∃ cG, LS T m (B + 3) cG aA /\ LF S σ cG aA /\ cG.az = cj S (c4 ++ c3 ++ c5)) (fun kk => ?_) ?_
 ·refine aj (fun e => ?_) (fun e => ?_)
  ·refine L2.ib (d := d) (by lia) ho (hf ax ah F2) fun S' σ' L' F' e4 => kk _ ⟨S', L', F2.trans F', ?_⟩
   have e5 := e4.trans (eA F2.aw F2.dW e2)
   have : c5 = (if bC ≠ ow /\ dR sh = true then [5] else []) := by
    rw [g5]
    by_cases g : bC ≠ ow /\ dR sh = true
    ·rw [if_pos g, if_pos ⟨e, g⟩]
    ·rw [if_neg g, if_neg fun h => g h.2]
   rw [this]
   exact e5
  ·exact kk _ ⟨ax, L2.up (by lia), F2, by rw [g5, if_neg fun g => e g.1, List.append_nil]; exact e2⟩
 rintro aA ⟨cG, L3, F3, e3⟩
 exact q cG aA L3 F3 e3
end
end
section
section
variable {S : cW} {w : Nat}
theorem TS.up (x : TS c T σ T' σ') (h : c <= c') : TS c' T σ T' σ' := ⟨x.tr, x.ext.up h, x.fr⟩
theorem TS.keep (x : TS c T σ T' σ') (k : aV σ' cy) : TS c T σ T' cy := ⟨x.tr.keep k, x.ext, x.fr.trans k.fr⟩
theorem wF (R : RR T n m S σ) (hz : T.size < 1000000) (hs : T.ak[s]? = some (.ae (.int a :: ra))) (ha : a = 10 \/ a = 15 \/ a = 7) (ho : T.ak[ow]? = some (.ae [.int 14, .int s])) (xj : 15 < ow)
  (hp : a = 7 -> ∀ Q' : PQ, (∀ σ', aV σ σ' -> Q' (.bool true) σ') -> cl (d + 7) 30 [.ref 4, .int s] σ Q') (q : ∀ T' σ', TS 1 T σ T' σ' -> T'.ao = T.ao -> T'.aK = T.aK -> Q (.int ow) σ') : cl (d + 8) 64 [.ref 13, .int s] σ Q := by
 have hh := R.cu
 have h4 := R.aO.aO
 have DF : cS T ow 14 := ⟨by simp only [List.mem_cons, List.not_mem_nil, or_false]; lia, by decide, by decide, by decide, _, ho, fun h => absurd h (by decide)⟩
 have ew : ∀ ab, aV σ ab -> WX (cl (d + 7)) (.cons (.ret (.call 15 (.cons (.ar (.aa 0) 119) (.cons (.aM (.aa 0) 127 (.cons (.ae (.cons (.aq 113 (.int 14)) (.cons (.aa 1) .nil))) .nil)) (.cons (.ae (.cons (.aq 52 (.int 6)) (.cons (.aq 54 (.int 7)) .nil))) .nil))))) .nil) [some (.ref 13), some (.int s), some (.int a)] ab (a6 Q) := fun ab K => by
  have R1 := R.keep K
  have hh := R1.cu
  cbv
  refine gx (row := .ae [.int 14, .int s]) R1 ho ?_
  cbv
  exact vN R1.aO hz DF (by lia) (by lia) (by show (ow : Int) ≠ -1; lia) fun T' σ' ts hb hd => q T' σ' ⟨ts.tr, ts.ext, K.fr.trans ts.fr⟩ hb hd
 refine jv ?_
 cbv
 refine aG (aI R.aO hs) ?_
 cbv
 refine aj (fun e => ?_) (fun _ => ?_)
 ·exfalso
  simp only [List.mem_cons, V.int.injEq, List.not_mem_nil, or_false] at e
  lia
 ·cbv
  refine aj (fun e => ?_) (fun e => ?_)
  ·cbv
   refine hp e _ fun ab K => ?_
   exact ew ab K
  ·rw [decide_eq_false e]
   exact ew σ .refl
def bA (T : cN) : List Nat -> List Nat -> Prop
 | [], [] => True
 | x :: xs, i :: is => T.ak[i]? = some (.ae [.int 3, .str x, .int 0]) /\ bA T xs is
 | _, _ => False
theorem bA.ext (x : bb c T T') : ∀ {xs is : List Nat}, bA T xs is -> bA T' xs is
 | [], [], _ => trivial
 | _ :: _, _ :: _, h => ⟨x.row h.1, bA.ext x h.2⟩
theorem bA.ze : ∀ {xs is : List Nat} {x i : Nat}, bA T xs is -> T.ak[i]? = some (.ae [.int 3, .str x, .int 0]) -> bA T (xs ++ [x]) (is ++ [i])
 | [], [], _, _, _, g => ⟨g, trivial⟩
 | _ :: _, _ :: _, _, _, h, g => ⟨h.1, bA.ze h.2 g⟩
theorem bA.inj (R : TR T σ) : ∀ {xs is js : List Nat}, bA T xs is -> bA T xs js -> is = js
 | [], [], [], _, _ => rfl
 | _ :: _, _ :: _, _ :: _, h, g => by rw [R.inj h.1 g.1, bA.inj R h.2 g.2]
theorem bA.len : ∀ {xs is : List Nat}, bA T xs is -> is.length = xs.length
 | [], [], _ => rfl
 | _ :: _, _ :: _, h => congrArg (· + 1) h.2.len
noncomputable def V.B3 : V -> Bool
 | .ae (.int z :: _) => z == 3
 | _ => false
theorem bA.plain (R : TR T σ) : ∀ {xs is : List Nat}, bA T xs is -> ∀ i ∈ is, cS T i 3 /\ 15 < i
 | [], [], _, _, h => nomatch h
 | x :: _, j :: _, h, i, hi => by
  rcases List.mem_cons.mp hi with rfl | hi
  ·have fP : 15 < i := Nat.lt_of_not_le fun zG => by
    obtain ⟨r, e⟩ : ∃ r, aQ[i]? = some r := ⟨_, List.getElem?_eq_getElem (Nat.lt_succ_of_le zG)⟩
    have hf : ∀ i : Fin 16, (aQ[i.val]?).map V.B3 ≠ some true := by decide
    refine hf ⟨i, Nat.lt_succ_of_le zG⟩ ?_
    rw [e]
    exact congrArg (Option.map V.B3) ((R.bN e).symm.trans h.1)
   exact ⟨⟨by simp only [List.mem_cons, List.not_mem_nil, or_false]; lia, by decide, by decide, by decide, _, h.1, fun _ => ⟨0, rfl, by decide⟩⟩, fP⟩
  ·exact bA.plain R h.2 i hi
theorem l9 {xs is : List Nat} {bO : V} (R : TR T σ) (hz : T.size < 1000000) (iM : lF bO (dt is) σ) (ht : bA T xs is) (hl : xs.length < 64)
  (q : ∀ T' σ' (u : Nat), TS 1 T σ T' σ' -> T'.ao = T.ao -> T'.aK = T.aK -> Un T' u (sd is) -> Q (.int u) σ') : cl (d + 3) 14 [.ref 4, bO] σ Q := by
 refine gF R hz iM (fl := is) ?_ (by rw [ht.len]; exact hl) (fun p hp => ⟨3, (ht.plain R p hp).1, fun p' Al e => ?_⟩) q
 ·clear iM hl
  have : ∀ is : List Nat, (∀ i ∈ is, cS T i 3) -> Fl T (dt is) is := fun is => by
   induction is with
   | nil => exact fun _ => .nil
   | cons i is ih => exact fun h => .cons (qs := [i]) (h i (.head _)).gH (ih fun j hj => h j (.tail _ hj))
  exact this is fun i hi => (ht.plain R i hi).1
 ·have xj := (ht.plain R p' Al).2
  have e : (p' : Int) = 6 := e
  lia
theorem Fs (e : j7) : Builtin.bitAnd ((if e.free then 1 else 0) + (if e.aT then 2 else 0)) 24 = 0 := by
 cases e.free <;> cases e.aT <;> decide
theorem t8 (R : RR T n m S σ) (hz : T.size + es.length < 999999) (hl : es.length < 60) (h : dU T σ s (some (es, c0, c1))) (q : ∀ T' σ' (u : Nat) is, TS (es.length + 1) T σ T' σ' -> T'.ao = T.ao -> T'.aK = T.aK -> bA T' (es.map (·.name)) is -> Un T' u (sd is) -> Q (.int u) σ') : cl (d + 8) 64 [.ref 13, .int s] σ Q := by
 obtain ⟨w, k, r, hs, hk, hw, hsh⟩ := h
 have hh := R.cu
 have h4 := R.aO.aO
 refine jv ?_
 cbv
 refine aG (aI R.aO hs) ?_
 cbv
 refine aj (fun e => ?_) (fun e => absurd (gp (l := [8, 9]).mpr (by simpa using hk)) e)
 rw [decide_eq_true e]
 cbv
 refine pN ?_
 cbv
 refine nS R hw hsh ?_
 refine aG (aI R.aO hw) ?_
 cbv
 refine c6.u0 j7.jl (.seq (.ae (es.map j7.jl))) (es.map j7.jl) es (fun dn _ acc ab => ∃ aZ is, acc = dt is /\ TS dn.length T σ aZ ab /\ aZ.ao = T.ao /\ aZ.aK = T.aK /\ bA aZ (dn.map (·.name)) is) ?_ ?_ ?_
 ·cbv
  exact .cn rfl ⟨T, [], rfl, R.aO.zI, rfl, rfl, trivial⟩
 ·rintro dn e td _ ab he ⟨aZ, is, rfl, J⟩
  have R1 := R.ts J.1
  have hh := R1.cu
  have jm := J.1.ext.size
  have zG := eC he
  cbv
  refine iI (decide_eq_true (Fs e)) ?_
  cbv
  refine HK (x := e.name) R1.aO (by lia) fun aD ah i gm hr Je Cn => ?_
  exact ⟨rfl, .next he ⟨aD, is ++ [i], de .., by rw [List.length_append]; exact J.1.trans gm, Je.trans J.2.1, Cn.trans J.2.2.1, by rw [List.map_append]; exact (J.2.2.2.ext gm.ext).ze hr⟩⟩
 ·rintro _ ab ⟨aZ, is, rfl, J⟩
  have ts := J.1
  have ht := J.2.2.2
  have jm := ts.ext.size
  have cQ := ht.len
  rw [List.length_map] at cQ
  refine ⟨by unfold dt; rw [List.length_map]; lia, ?_⟩
  refine l9 (d := d + 3) (ts.tr.push) (by lia) (ba ay) ht (by rw [List.length_map]; lia) fun aD ah u gm Je Cn hu => ?_
  exact q aD ah u is ((ts.keep .push).trans gm) (Je.trans J.2.1) (Cn.trans J.2.2.1) (ht.ext gm.ext) hu
end
end
variable {i : Nat} {as : V} {opt ro : Int}
section
section
variable {S : cW} {w bC : Nat}
structure vE (T : cN) (m : Int) (s x : Nat) (opt : Int) (σ : ag) (P N : cN -> Nat -> Prop) : Prop where
 Kc : opt = 1 -> ∀ (d : Nat) (Q' : PQ), (∀ aZ ab wt, TS 4 T σ aZ ab -> P aZ wt -> Q' (.int wt) ab) -> cl (d + 4) 16 [.ref 4, .int x] σ Q'
 Kd : opt ≠ 1 -> P T x
 ON : ∀ {aZ aD k wt}, bb k aZ aD -> P aZ wt -> P aD wt
 Lc : ∀ {aZ ab}, TS 4 T σ aZ ab -> ∀ (S : cW) (d : Nat) (Q' : PQ), RR aZ 14 m S ab -> (∀ aD ah nm, TS 8 aZ ab aD ah -> N aD nm -> Q' (.int nm) ah) -> cl (d + 8) 64 [.ref 13, .int s] ab Q'
noncomputable def SL.tl : SL -> SL
 | .cons _ r => r
 | .nil => .nil
theorem vE.go {P N : cN -> Nat -> Prop} {cq : V} (I : vE T m s i opt σ P N) (L : LS T m B S σ) (hd : 10 * h <= d) (hB : B + c <= 20000) (hh : h <= 60)
  (K : ∀ aD ah nm, bb 12 T aD -> TR aD ah -> N aD nm -> bH aD 14 m bC nm v c h)
  (k : ∀ aD ax ah wt, bb 12 T aD -> LS aD m (B + c) ax ah -> LF S σ ax ah -> ax.az = S.az -> P aD wt -> (v = false -> Q (.bool false) ah) /\ (v = true ->
   WX (cl (d + 8)) cV.body.tl.tl.tl [some (.ref 14), some (.int s), some (dh cq bC as (.int i) opt ro), some (.ref 13), some (.int wt), none, none] ah (a6 Q))) :
  cl (d + 9) 72 [.ref 14, .int s, dh cq bC as (.int i) opt ro] σ Q := by
 have h : σ[14]? = some (.aF 3 (bj 14 m S)) := L.rr.cO
 have Fd := L.rr.cu
 have h4 := L.rr.aO.aO
 unfold dh at k ⊢
 refine pX ?_
 cbv
 have next : ∀ aZ ab wt, TS 4 T σ aZ ab -> P aZ wt -> WX (cl (d + 8)) cV.body.tl.tl [some (.ref 14), some (.int s), some (.ae [.int 17, cq, .int bC, as, .int i, .int opt, .int ro]), some (.ref 13), some (.int wt), none, none] ab (a6 Q) := fun aZ ab wt ts hp => by
  have L1 := L.ts ts
  have h : ab[14]? = some (.aF 3 (bj 14 m S)) := L1.rr.cO
  have Fd := L1.rr.cu
  cbv
  refine I.Lc ts S d _ L1.rr fun aD ah nm gm hn => ?_
  cbv
  have L2 := L1.ts gm
  refine L2.ask (d := d + 7) (K aD ah nm (ts.ext.trans gm.ext) gm.tr hn) (by lia) hB hh fun cG aA L3 F3 e3 => ?_
  have k := k aD cG aA wt (ts.ext.trans gm.ext) L3 ((ts.trans gm).fr.lf.trans F3) e3 (I.ON gm.ext hp)
  cases v with
  | false =>
   cbv
   exact k.1 rfl
  | true => exact (k.2 rfl)
 refine aj (fun e => ?_) (fun e => ?_)
 ·cbv
  exact I.Kc e (d + 4) _ next
 ·skip
  exact next T σ i (L.rr.aO.zI.up (Nat.zero_le _)) (I.Kd e)
end
end
variable {h' me mine : Nat}
section
section
variable {S : cW} {w bC wt : Nat}
theorem LS.Bi {cq : Nat} (L : LS T m B S σ) (zF : T.ak[me]? = some (.ae [.int 10, .int cq])) (p6 : T.ak[mine]? = some (.ae [.int 15, .int s, .int me])) (hd : 10 * h <= d) (hB : B + c <= 20000) (hh : h <= 60) (K : bH T 14 m mine wt v c h)
  (k : ∀ ax ah, LS T m (B + c) ax ah -> LF S σ ax ah -> ax.az = S.az -> (v = false -> Q (.bool false) ah) /\ (v = true ->
   WX (cl (d + 8)) cV.body.tl.tl.tl.tl.tl [some (.ref 14), some (.int s), some (dh (.int cq) bC as (.int i) opt ro), some (.ref 13), some (.int wt), some (.int mine), none] ah (a6 Q))) :
  WX (cl (d + 8)) cV.body.tl.tl.tl [some (.ref 14), some (.int s), some (dh (.int cq) bC as (.int i) opt ro), some (.ref 13), some (.int wt), none, none] σ (a6 Q) := by
 have h : σ[14]? = some (.aF 3 (bj 14 m S)) := L.rr.cO
 have Fd := L.rr.cu
 have h4 := L.rr.aO.aO
 cbv
 refine iF L.rr.aO zF ?_
 cbv
 refine gx (row := .ae [.int 15, .int s, .int me]) L.rr p6 ?_
 cbv
 refine L.ask (d := d + 7) K (by lia) hB hh fun cG aA L3 F3 e3 => ?_
 have k := k cG aA L3 F3 e3
 cases v with
 | false =>
  cbv
  exact k.1 rfl
 | true => exact (k.2 rfl)
theorem vE.no {P N : cN -> Nat -> Prop} {cq : Nat} (I : vE T m s i opt σ P N) (L : LS T m B S σ) (hd : 10 * h <= d) (sE : 10 * h' <= d) (hB : B + (c + c') <= 20000) (hh : h <= 60) (Fd : h' <= 60)
  (zF : T.ak[me]? = some (.ae [.int 10, .int cq])) (p6 : T.ak[mine]? = some (.ae [.int 15, .int s, .int me]))
  (K : ∀ aD ah nm, bb 12 T aD -> TR aD ah -> N aD nm -> bH aD 14 m bC nm v c h)
  (K2 : v = true -> ∀ aD ah wt, bb 12 T aD -> TR aD ah -> P aD wt -> bH aD 14 m mine wt false c' h')
  (q : ∀ aD ax ah, bb 12 T aD -> LS aD m (B + (c + c')) ax ah -> LF S σ ax ah -> ax.az = S.az -> Q (.bool false) ah) : cl (d + 9) 72 [.ref 14, .int s, dh (.int cq) bC as (.int i) opt ro] σ Q := by
 refine I.go L hd (by lia) hh K fun aD ax ah wt X L2 F2 e2 hp => ⟨fun _ => q aD ax ah X (L2.up (by lia)) F2 e2, fun e => ?_⟩
 refine L2.Bi (X.row zF) (X.row p6) sE (by lia) Fd (K2 e aD ah wt X L2.rr.aO hp) fun cG aA L3 F3 e3 => ⟨fun _ => ?_, fun e => nomatch e⟩
 exact q aD cG aA X (L3.up (by lia)) (F2.trans F3) (e3.trans e2)
def pn (mine : Nat) (T : cN) (wt : Nat) : Prop := ∃ ps, T.ak[wt]? = some (.ae [.int 6, .ae ps]) /\ V.int mine ∈ ps
theorem vE.Oj {N : cN -> Nat -> Prop} {cq x : Nat} {kk : Int} {rk : List V} {c3 c4 c5 : List Int} (I : vE T m s i opt σ (pn mine) N) (L : LS T m B S σ) (hm : m ≠ 3) (xd : S.aw = true -> m = 1) (hd : 10 * h <= d) (h1 : 1 <= h) (hB : B + (c + 6) < 20000) (hh : h <= 60)
  (zF : T.ak[me]? = some (.ae [.int 10, .int cq])) (p6 : T.ak[mine]? = some (.ae [.int 15, .int s, .int me])) (Ud : 15 < mine) (ho : T.ak[ow]? = some (.ae [.int 14, .int s])) (hs : dU T σ s none)
  (hk : T.ak[bC]? = some (.ae (.int kk :: rk))) (hx : kk = 7 /\ (∃ l, rk = [.ae (.int x :: l)]) \/ kk ≠ 7 /\ x = bC) (LH : x < T.ak.length)
  (K : ∀ aD ah nm, bb 12 T aD -> TR aD ah -> N aD nm -> bH aD 14 m bC nm true c h)
  (g3 : c3 = if ro ≠ 1 then [3] else []) (g4 : c4 = if ro ≠ 1 /\ ¬(ro = 0 /\ x = ow) then [4] else []) (g5 : c5 = if opt = 0 /\ bC ≠ ow then [5] else [])
  (q : ∀ aD ax ah, bb 12 T aD -> LS aD m (B + (c + 6)) ax ah -> LF S σ ax ah -> ax.az = cj S (c5 ++ (c3 ++ c4)) -> Q (.bool true) ah) : cl (d + 9) 72 [.ref 14, .int s, dh (.int cq) bC as (.int i) opt ro] σ Q := by
 refine I.go L hd (by lia) hh K fun aD ax ah wt X L2 F2 e2 hp => ⟨(fun e => nomatch e), fun _ => ?_⟩
 obtain ⟨ps, hw, jW⟩ := hp
 have Px := X.row zF
 have I6 := X.row p6
 have xc := X.row ho
 obtain ⟨ks, rs, LN, Pd⟩ := hs
 have LN := X.row LN
 obtain ⟨Vs, Pt, fP⟩ := L2.rr.aO.y7 wt ps hw _ jW
 cases Int.ofNat.inj (V.int.inj Pt)
 have D : j4 aD mine wt 15 6 [.int s, .int me] [.ae ps] := ⟨I6, hw, by simp only [List.mem_cons, List.not_mem_nil, or_false]; lia, by simp only [List.mem_cons, List.not_mem_nil, or_false]; lia, fun e => by lia, .inl (by decide)⟩
 refine L2.Bi Px I6 (h := 1) (c := 1) (by lia) (by lia) (by decide) (Dc hm (by lia) D (bM (by decide)) (by decide) (by lia) jW) fun cG aA L3 F3 e3 => ⟨(fun e => nomatch e), fun _ => ?_⟩
 have h : aA[14]? = some (.aF 3 (bj 14 m cG)) := L3.rr.cO
 have Fd := L3.rr.cu
 have h4 := L3.rr.aO.aO
 have F3 := F2.trans F3
 have e3 := e3.trans e2
 refine eY (fun bc => ∃ j0, LS aD m (B + c + 2) j0 bc /\ LF S σ j0 bc /\ j0.az = cj S c5) (fun kk => ?_) ?_
 ·cbv
  refine aj (fun e => ?_) (fun e => ?_)
  ·cbv
   refine aG (aI L3.rr.aO LN) ?_
   cbv
   refine bF (fun _ => ?_) (fun e => ?_)
   ·cbv
    refine L3.ib (d := d + 5) (sh := none) (by lia) xc ⟨ks, rs, LN, Pd⟩ fun S' σ' L' F' e4 => kk _ ⟨S', L', F3.trans F', ?_⟩
    have e5 := e4.trans (eA (l := []) F3.aw F3.dW (e3.trans dA.symm))
    rw [List.nil_append] at e5
    rw [e5, g5]
    by_cases g : bC ≠ ow
    ·rw [if_pos ⟨g, rfl⟩, if_pos ⟨e, g⟩]
    ·rw [if_neg fun h => g h.1, if_neg fun h => g h.2]
   ·exfalso
    simp only [List.mem_cons, V.int.injEq, List.not_mem_nil, or_false] at e
    lia
  ·refine cY (decide_eq_false e) ?_
   exact kk _ ⟨cG, L3.up (by lia), F3, by rw [g5, if_neg fun h => e h.1, dA]; exact e3⟩
 rintro bc ⟨j0, L4, F4, e4⟩
 refine Hn (fun bg => ∃ lZ, LS aD m (B + (c + 6)) lZ bg /\ LF S σ lZ bg /\ lZ.az = cj S (c5 ++ (c3 ++ c4))) (fun kk => ?_) ?_
 ·cbv
  refine bF (fun e => ?_) (fun e => ?_)
  ·cbv
   refine L4.Kj (d := d + 1) hm (by lia) I6 hw (by lia) (by lia) (by lia) fun lZ bg L5 F5 e5 => ?_
   have e5 : lZ.az = cj S (c5 ++ [3]) := by
    rw [e5]
    refine Eq.trans ?_ (eA (l' := [3]) F4.aw F4.dW e4)
    unfold cj
    by_cases ht : j0.aw = true
    ·rw [if_pos ⟨ht, xd (F4.aw ▸ ht)⟩, if_pos ht]; rfl
    ·rw [if_neg fun h => ht h.1, if_neg ht]
   have F5 := F4.trans F5
   have Fd := L5.rr.cu
   have g3 : c3 = [3] := by rw [g3, if_pos e]
   subst g3
   refine Av (.bool (decide (ro = 0) && decide (x = ow))) (fun k => ?_) ?_
   ·cbv
    refine aj (fun e => ?_) (fun e => ?_)
    ·rw [decide_eq_true e, Bool.true_and] at k
     cbv
     exact ue L5.rr.aO (X.row hk) hx xc (Nat.lt_of_lt_of_le LH X.ak.length_le) k
    ·rw [decide_eq_false e] at k ⊢
     exact k
   generalize I9 : (decide (ro = 0) && decide (x = ow)) = kp
   have h : bg[14]? = some (.aF 3 (bj 14 m lZ)) := L5.rr.cO
   cases kp with
   | true =>
    have g : ro = 0 /\ x = ow := by simpa using I9
    cbv
    refine kk [] _ ⟨lZ, L5.up (by lia), F5, ?_⟩
    rw [g4, if_neg fun h => h.2 g, List.append_nil]
    exact e5
   | false =>
    have g : ¬(ro = 0 /\ x = ow) := by simpa using I9
    cbv
    refine mj (d := d + 5) (sh := none) L5.rr ⟨ks, rs, LN, Pd⟩ (fun _ _ _ h => nomatch h) fun iy K6 => ?_
    have L6 := L5.keep K6
    have h : iy[14]? = some (.aF 3 (bj 14 m lZ)) := L6.rr.cO
    cbv
    refine L6.tU (d := d + 6) (by lia) fun QF ix L7 F7 e7 => kk [] _ ⟨QF, L7.up (by lia), (F5.trans K6.lf).trans F7, ?_⟩
    rw [g4, if_pos ⟨e, g⟩, <- List.append_assoc]
    exact e7.trans (eA (l' := [4]) F5.aw F5.dW e5)
  ·refine kk [] _ ⟨j0, L4.up (by lia), F4, ?_⟩
   rw [g3, g4, if_neg fun h => h e, if_neg fun h => h.1 e, List.append_nil, List.append_nil]
   exact e4
 rintro _ bg ⟨lZ, L5, F5, e5⟩
 cbv
 exact q aD lZ bg X L5 F5 e5
end
end
section
section
variable {S : cW} {w bC : Nat} {as : Int}
theorem zu {cq : Nat} {xx : V} (R : RR T n m S σ) (zF : T.ak[me]? = some (.ae [.int 10, .int cq])) (p6 : T.ak[mine]? = some (.ae [.int 15, .int s, .int me])) (q : Q (.int mine) σ) : cl (d + 3) 65 [.ref n, .int s, dh (.int cq) bC (.int as) xx opt ro] σ Q := by
 have h := R.cO
 have Fd := R.cu
 have h4 := R.aO.aO
 refine se ?_
 cbv
 refine iF R.aO zF ?_
 cbv
 exact nW (row := .ae [.int 15, .int s, .int me]) R.aO p6 q
theorem oa (es : List j7) : V.a5 5 (.ae (es.map j7.jl)) = true :=
 List.all_eq_true.mpr fun x hx => by obtain ⟨e, _, rfl⟩ := List.mem_map.mp hx; rfl
theorem i9 (c : Option Nat) : V.a5 5 (cell c) = true := by cases c <;> rfl
theorem CM (hr : a ≠ 8 \/ ∃ es c0 c1, V.ae (.int a :: ra) = cf es c0 c1 /\ (es ≠ [] \/ c0.isSome = true \/ c1.isSome = true)) (q : Q (.bool false) σ) : cl (d + 1) 66 [.ae (.int a :: ra)] σ Q := by
 refine jT ?_
 cbv
 refine aj (fun e => ?_) (fun e => ?_)
 ·rcases hr with hr | ⟨es, c0, c1, e2, eU⟩
  ·exact absurd e hr
  ·cases e2
   cbv
   refine ir (x := false) ?_ q
   have h1 : V.a5 6 (.ae [.ae (es.map j7.jl), .ae [], .ae [], cell c0, cell c1]) = true := by
    show (V.a5 5 (.ae (es.map j7.jl)) && (true && (true && (V.a5 5 (cell c0) && (V.a5 5 (cell c1) && true))))) = true
    rw [oa, i9, i9]; rfl
   refine (yH h1 rfl ⟨_, rfl⟩).trans ?_
   congr 1
   refine decide_eq_false fun e => ?_
   have e := V.ae.inj e
   rcases eU with h | h | h
   ·have := V.ae.inj (List.cons.inj e).1
    exact h (List.map_eq_nil_iff.mp this)
   ·have := (List.cons.inj (List.cons.inj (List.cons.inj (List.cons.inj e).2).2).2).1
    cases c0 with
    | none => cases h
    | some => cases this
   ·have := (List.cons.inj (List.cons.inj (List.cons.inj (List.cons.inj (List.cons.inj e).2).2).2).2).1
    cases c1 with
    | none => cases h
    | some => cases this
 ·exact xC Q e q
theorem x5 {z : Int} (q : Q (.int (if z = 2 then -1 else z)) σ) : cl (d + 1) 73 [.int z] σ Q := by
 refine sf ?_
 cbv
 refine aj (fun e => ?_) (fun e => ?_)
 ·rw [if_pos e] at q; cbv; exact q
 ·rw [if_neg e] at q; cbv; exact q
theorem LS.Ee {cq : V} {pa tv : V} {over vv : Nat} {kk : Int} {rk : List V} {xx : V} (L : LS T m B S σ) (hm : m ≠ 3) (hd : 10 * h <= d) (hB : B + c <= 20000) (hh : h <= 60) (Nv : T.ak[over]? = some (.ae [.int 14, .int vv])) (hk : T.ak[bC]? = some (.ae (.int kk :: rk)))
  (K : (kk = 14 /\ ∃ z : Nat, rk = [.int z] /\ bH T 14 m vv z false c h) \/ kk ≠ 14 /\ bH T 14 m bC over false c h)
  (q : ∀ S' σ', LS T m (B + c) S' σ' -> LF S σ S' σ' -> S'.az = S.az -> Q (.bool false) σ') : cl (d + 5) 76 [.ref 14, .ae [.int 17, pa, .int over, .int (-1), tv, .int 0, .int 0], dh cq bC (.int as) xx opt ro] σ Q := by
 have h : σ[14]? = some (.aF 3 (bj 14 m S)) := L.rr.cO
 have Fd := L.rr.cu
 have h4 := L.rr.aO.aO
 have q0 := q S σ (L.up (by lia)) .refl rfl
 unfold dh
 refine oB ?_
 cbv
 refine aj (fun e => ?_) (fun _ => ?_)
 ·refine iI (decide_eq_true e) ?_
  exact q0
 cbv
 refine kK ?_
 cbv
 refine aj (fun e => absurd e hm) (fun _ => ?_)
 refine eY (fun σ' => σ' = σ) (fun kk => ?_) ?_
 ·cbv
  refine bF (fun _ => ?_) (fun e => ?_)
  ·cbv
   refine x5 ?_
   refine x5 ?_
   refine aj (fun _ => ?_) (fun _ => kk _ rfl)
   exact q0
  ·refine cY (by rw [decide_eq_true e]; rfl) ?_
   exact kk _ rfl
 rintro _ rfl
 refine uz ?_
 cbv
 refine aG (aI L.rr.aO Nv) ?_
 cbv
 refine aG (aI L.rr.aO hk) ?_
 refine aj (fun e => ?_) (fun e => ?_)
 ·rcases K with ⟨_, z, rfl, K⟩ | ⟨hn, _⟩
  ·cbv
   exact L.ask (d := d + 1) K (by lia) hB hh fun aU ab L1 F1 e1 => q aU ab L1 F1 e1
  ·exact absurd e hn
 ·rcases K with ⟨hn, _⟩ | ⟨_, K⟩
  ·exact absurd hn e
  ·cbv
   exact L.ask (d := d + 1) K (by lia) hB hh fun aU ab L1 F1 e1 => q aU ab L1 F1 e1
end
end
section
section
variable {S : cW} {w bC : Nat} {as : Int}
theorem tS {x y : V} (h : cl (d + 1) 31 [x, y, .int 0] σ Q) : cl (d + 1) 31 [x, y] σ Q := ⟨h.out⟩
theorem HE {cq : V} {xx : Nat} (L : LS T m B S σ) (hr : a ≠ 8 \/ ∃ es c0 c1, V.ae (.int a :: ra) = cf es c0 c1 /\ (es ≠ [] \/ c0.isSome = true \/ c1.isSome = true))
  (TY : a = 17 -> ∀ Q' : PQ, (∀ aU ab, LS T m (B + c) aU ab -> LF S σ aU ab -> aU.az = S.az -> Q' (.bool false) ab) -> cl d 76 [.ref 14, .ae (.int a :: ra), dh cq bC (.int as) (.int xx) opt ro] σ Q') (hd : 1 <= d)
  (k : ∀ aU ab, LS T m (B + c) aU ab -> LF S σ aU ab -> aU.az = S.az -> WX (cl d) bX.body.tl.tl [some (.ref 14), some (.int s), some (.ae (.int a :: ra)), some (dh cq bC (.int as) (.int xx) opt ro), none, none] ab (a6 Q)) :
  cl (d + 1) 67 [.ref 14, .int s, .ae (.int a :: ra), dh cq bC (.int as) (.int xx) opt ro] σ Q := by
 obtain ⟨d, rfl⟩ := Nat.exists_eq_add_of_le hd
 rw [Nat.add_comm 1 d] at *
 refine rY ?_
 refine eY (fun σ' => ∃ aU, LS T m (B + c) aU σ' /\ LF S σ aU σ' /\ aU.az = S.az) (fun kk => ?_) ?_
 ·cbv
  refine aj (fun e => ?_) (fun e => ?_)
  ·cbv
   refine TY e _ fun aU ab L1 F1 e1 => ?_
   exact kk _ ⟨aU, L1, F1, e1⟩
  ·refine cY (decide_eq_false e) ?_
   exact kk _ ⟨S, L.up (by lia), .refl, rfl⟩
 rintro ab ⟨aU, L1, F1, e1⟩
 refine eY (fun σ' => σ' = ab) (fun kk => ?_) ?_
 ·cbv
  refine aj (fun e => ?_) (fun e => ?_)
  ·cbv
   refine CM hr ?_
   exact kk _ rfl
  ·refine cY (decide_eq_false e) ?_
   exact kk _ rfl
 rintro σ' rfl
 exact k aU σ' L1 F1 e1
theorem HG {cq : V} {xx : Nat} (ho : 0 <= as \/ opt = 2) (q : Q (.bool false) σ) : WX (cl d) bX.body.tl.tl [some (.ref 14), some (.int s), some (.ae (.int a :: ra)), some (dh cq bC (.int as) (.int xx) opt ro), none, none] σ (a6 Q) := by
 cbv
 refine aj (fun e => ?_) (fun e => ?_)
 ·refine iI (decide_eq_true e) ?_
  cbv
  exact q
 ·cbv
  refine aj (fun _ => ?_) (fun e2 => absurd (ho.resolve_left e) e2)
  cbv
  exact q
theorem HJ {cq : V} {xx : Nat} {z : Option V} {nul : Bool} (L : LS T m B S σ) (hB : B < 900000) (hn : ∀ Q' : PQ, (∀ σ', aV σ σ' -> Q' (.bool nul) σ') -> cl (d + 1) 31 [.ref 4, .int s, .int 0] σ Q') (hd : 1 <= d)
  (q : ∀ S' σ', LS T m (B + 1) S' σ' -> LF S σ S' σ' -> S'.az = cj S (if nul then [15] else []) -> Q (.bool true) σ') : WX (cl (d + 1)) bX.body.tl.tl.tl.tl [some (.ref 14), some (.int s), some (.ae (.int a :: ra)), some (dh cq bC (.int as) (.int xx) opt ro), z, some (.bool true)] σ (a6 Q) := by
 obtain ⟨d, rfl⟩ := Nat.exists_eq_add_of_le hd
 rw [Nat.add_comm 1 d] at *
 have h : σ[14]? = some (.aF 3 (bj 14 m S)) := L.rr.cO
 have Fd := L.rr.cu
 refine eY (fun σ' => ∃ aU, LS T m (B + 1) aU σ' /\ LF S σ aU σ' /\ aU.az = cj S (if nul then [15] else [])) (fun kk => ?_) ?_
 ·cbv
  refine tS (hn _ fun ab K => ?_)
  have L1 := L.keep K
  have h : ab[14]? = some (.aF 3 (bj 14 m S)) := L1.rr.cO
  cases nul with
  | false => exact kk _ ⟨S, L1.up (by lia), K.lf, dA.symm⟩
  | true =>
   cbv
   exact L1.tU (d := d) hB fun ax ah L2 F2 e2 => kk _ ⟨ax, L2, K.lf.trans F2, e2⟩
 rintro ab ⟨aU, L1, F1, e1⟩
 cbv
 exact q aU ab L1 F1 e1
theorem HI {cq xx : Nat} (R : RR T 14 m S σ) (ha : as < 0) (h2 : opt ≠ 2) (zF : T.ak[me]? = some (.ae [.int 10, .int cq])) (p6 : T.ak[mine]? = some (.ae [.int 15, .int s, .int me]))
  (k1 : xx = mine -> cl (d + 3) 70 [.ref 14, .int s, dh (.int cq) bC (.int as) (.int xx) opt ro] σ fun v ab => WX (cl (d + 3)) bX.body.tl.tl.tl.tl [some (.ref 14), some (.int s), some (.ae (.int a :: ra)), some (dh (.int cq) bC (.int as) (.int xx) opt ro), none, some v] ab (a6 Q))
  (k2 : xx ≠ mine -> (a = 17 -> Q (.bool false) σ) /\ (a ≠ 17 -> cl (d + 3) 72 [.ref 14, .int s, dh (.int cq) bC (.int as) (.int xx) opt ro] σ fun v ab => WX (cl (d + 3)) bX.body.tl.tl.tl.tl [some (.ref 14), some (.int s), some (.ae (.int a :: ra)), some (dh (.int cq) bC (.int as) (.int xx) opt ro), none, some v] ab (a6 Q))) :
  WX (cl (d + 3)) bX.body.tl.tl [some (.ref 14), some (.int s), some (.ae (.int a :: ra)), some (dh (.int cq) bC (.int as) (.int xx) opt ro), none, none] σ (a6 Q) := by
 refine eY (fun σ' => σ' = σ) (fun kk => ?_) ?_
 ·cbv
  refine aj (fun e => absurd e (by lia)) (fun _ => ?_)
  cbv
  refine aj (fun e => absurd e h2) (fun _ => ?_)
  exact kk _ rfl
 rintro σ' rfl
 cbv
 refine zu R zF p6 ?_
 cbv
 refine aj (fun e => ?_) (fun e => ?_)
 ·cbv
  exact k1 (Int.ofNat.inj e)
 ·have k2 := k2 fun g => e (by rw [g])
  cbv
  by_cases e2 : a = 17
  ·subst e2
   exact k2.1 rfl
  ·refine iI (by rw [decide_eq_false e2]; rfl) ?_
   exact k2.2 e2
theorem HH {cq : V} {xx : Nat} {z : Option V} (q : Q (.bool false) σ) : WX (cl d) bX.body.tl.tl.tl.tl [some (.ref 14), some (.int s), some (.ae (.int a :: ra)), some (dh cq bC (.int as) (.int xx) opt ro), z, some (.bool false)] σ (a6 Q) := by
 cbv
 exact q
end
end
variable {pos cI : Nat} {xs : List V}
section
structure HF (σ σ' : ag) : Prop where
 len : σ.length <= σ'.length
 old : ∀ (a : Nat) o, σ[a]? = some o -> 10 < a -> σ'[a]? = some o
structure DS (xs : List V) (pos : Nat) (T : cN) (σ : ag) : Prop where
 tr : TR T σ
 d3 : σ[3]? = some (.list [.int pos, .ref 2])
 d2 : σ[2]? = some (.list xs)
structure SS (xs : List V) (k : Nat) (T : cN) (σ : ag) (cI : Nat) (T' : cN) (σ' : ag) : Prop where
 ds : DS xs cI T' σ'
 ext : bb k T T'
 fr : HF σ σ'
section
variable {Gu : Nat} {S : cW}
theorem HF.refl : HF σ σ := ⟨Nat.le_refl _, fun _ _ h _ => h⟩
theorem HF.trans (x : HF σ σ') (y : HF σ' cy) : HF σ cy := ⟨Nat.le_trans x.len y.len, fun a o h g => y.old a o (x.old a o h g) g⟩
theorem Fr.hf (x : Fr σ σ') : HF σ σ' := ⟨x.len, fun a o h g => x.old a o h (.inr g)⟩
theorem aV.hf (x : aV σ σ') : HF σ σ' := x.fr.hf
theorem DS.ts (D : DS xs pos T σ) (x : TS k T σ T' σ') : DS xs pos T' σ' := ⟨x.tr, x.fr.old _ _ D.d3 (.inl (by decide)), x.fr.old _ _ D.d2 (.inl (by decide))⟩
theorem DS.keep (D : DS xs pos T σ) (x : aV σ σ') : DS xs pos T σ' := ⟨D.tr.keep x, x.old _ _ D.d3, x.old _ _ D.d2⟩
theorem TS.ss (x : TS k T σ T' σ') (D : DS xs pos T σ) : SS xs k T σ pos T' σ' := ⟨D.ts x, x.ext, x.fr.hf⟩
theorem DS.zI (D : DS xs pos T σ) : SS xs 0 T σ pos T σ := ⟨D, .refl, .refl⟩
theorem SS.trans (x : SS xs k T σ cI T' σ') (y : SS xs j T' σ' Gu Hg cy) : SS xs (k + j) T σ Gu Hg cy := ⟨y.ds, x.ext.trans y.ext, x.fr.trans y.fr⟩
theorem SS.keep (x : SS xs k T σ cI T' σ') (y : aV σ' cy) : SS xs k T σ cI T' cy := ⟨x.ds.keep y, x.ext, x.fr.trans y.hf⟩
theorem SS.up (x : SS xs k T σ cI T' σ') (h : k <= j) : SS xs j T σ cI T' σ' := ⟨x.ds, x.ext.up h, x.fr⟩
theorem RR.hf (R : RR T n m S σ) (x : HF σ σ') (T2 : TR T' σ') : RR T' n m S σ' := by
 have z : ∀ {a : Nat} {o : aN}, σ[a]? = some o -> 10 < a -> σ'[a]? = some o := fun h g => x.old _ _ h g
 have g : ∀ i, 10 < n + i := fun i => Nat.lt_trans (by decide) (R.gt i)
 exact { R with aO := T2, cO := z R.cO (g 0), dF := z R.dF (g 2), kn := z R.kn (g 3), tr := z R.tr R.HB, no := z R.no (g 6), nr := z R.nr (g 7), cu := z R.cu (by decide), eM := z R.eM (by decide), rule := z R.rule (by decide) }
theorem LS.hf (L : LS T m B S σ) (x : HF σ σ') (T2 : TR T' σ') (e : bb k T T') : LS T' m B S σ' :=
 ⟨L.rr.hf x T2, L.ai.ext L.rr.aO e, L.vR, L.dp, L.lk, L.nl, L.tw.imp id fun ⟨k, ax, g, R, A, r⟩ => ⟨k, ax, g, R.hf x T2, A.ext R.aO e, r⟩⟩
theorem LS.ss (L : LS T m B S σ) (x : SS xs k T σ cI T' σ') : LS T' m B S σ' := L.hf x.fr x.ds.tr x.ext
noncomputable def lV : List V := [.int 0, .int 0, .int 1, .int 1, .int 2, .int 0, .int 1, .int 0, .int 0, .int 0, .int 0, .int 5, .int 5, .int 1, .int 1, .int 3, .int 0, .int 1, .int 2, .int 0, .int 7, .int 1, .int 1, .int 0, .int 0, .int 0, .int 1, .int 0, .int 0, .int 0]
theorem FJ {z : Int} (h0 : 0 <= z) (h : z < 30) : ∃ y : Int, vI lV z = some (.int y) := by
 have : ∀ i : Fin 30, ∃ y : Int, lV[i.val]? = some (.int y) := fun i => by
  have hl : i.val < lV.length := i.isLt
  have := List.all_eq_true.mp (show lV.all (fun v => match v with | .int _ => true | _ => false) = true from rfl) lV[i.val] (List.getElem_mem hl)
  rw [List.getElem?_eq_getElem hl]
  revert this
  cases lV[i.val] <;> intro h <;> first | exact ⟨_, rfl⟩ | cases h
 obtain ⟨y, e⟩ := this ⟨z.toNat, by lia⟩
 exact ⟨y, by unfold vI; rw [if_pos h0]; exact e⟩
theorem Eb {k : Nat} {x y v : V} (h : σ[k]? = some (.list [x, y])) : Gd k v σ (.int 0) (σ.set k (.list [v, y])) := .list h ⟨by decide, by show (0 : Int) < 2; decide⟩
theorem BN {a b : Int} (h : 0 < b /\ b < 1000000) : z8 .mod (.int a) (.int b) = some (.int (a.fmod b)) := if_pos h
theorem yE {a b : Int} (h : 0 < b /\ b < 1000000) : z8 .fdiv (.int a) (.int b) = some (.int (a.fdiv b)) := if_pos h
theorem H4 {b : Int} (h : 0 <= b /\ b <= 64) : z8 .pow (.int 2) (.int b) = some (.int (2 ^ b.toNat)) := if_pos ⟨rfl, h⟩
theorem nQ {b : Int} (D : DS xs pos T σ) (hx : ∀ v ∈ xs, ∃ z : Int, v = .int z) (hb : 0 < b) (Je : b < 1000000) (q : ∀ z σ', 0 <= z -> z < b -> SS xs 0 T σ (pos + 1) T σ' -> σ'.length = σ.length -> Q (.int z) σ') : cl (d + 1) 81 [.ref 3, .int b] σ Q := by
 have h3 := D.d3
 refine ux ?_
 cbv
 refine aG (cD h3 rfl) ?_
 cbv
 refine dI (show Gd _ _ _ _ (σ.set 3 (.list [.int (pos + 1 : Nat), .ref 2])) from Eb h3) ?_
 have hs : SS xs 0 T σ (pos + 1) T (σ.set 3 (.list [.int (pos + 1 : Nat), .ref 2])) := by
  have z : ∀ (a : Nat) o, σ[a]? = some o -> a ≠ 3 -> (σ.set 3 (.list [.int (pos + 1 : Nat), .ref 2]))[a]? = some o := fun a o h g => by rw [au g.symm]; exact h
  exact ⟨⟨D.tr.fr fun a o h g => z a o h (by lia), aE h3, z _ _ D.d2 (by decide)⟩, .refl, ⟨by rw [List.length_set]; lia, fun a o h g => z a o h (by lia)⟩⟩
 have LV : (σ.set 3 (.list [.int (pos + 1 : Nat), .ref 2])).length = σ.length := List.length_set
 generalize σ.set 3 (.list [.int (pos + 1 : Nat), .ref 2]) = ab at hs LV ⊢
 have h3 := hs.ds.d3
 have done : ∀ y : Int, WX (cl d) (.cons (.ret (.fQ .mod (.aa 3) (.aa 1))) .nil) [some (.ref 3), some (.int b), some (.int pos), some (.int y)] ab (a6 Q) := fun y => by
  cbv
  refine ir (BN ⟨hb, Je⟩) ?_
  exact q _ ab (Int.fmod_nonneg_of_pos _ hb) (Int.fmod_lt_of_pos _ hb) hs LV
 cbv
 refine aG (cD h3 rfl) ?_
 refine b3 hs.ds.d2 ?_
 cbv
 refine aj (fun e => ?_) (fun e => ?_)
 ·have fP : pos < xs.length := by lia
  obtain ⟨z, hz⟩ := hx _ (List.getElem_mem fP)
  cbv
  refine aG (cD h3 rfl) ?_
  cbv
  refine aG (cD hs.ds.d2 (fh (List.getElem?_eq_getElem fP))) ?_
  rw [hz]
  exact done z
 ·cbv
  obtain ⟨y, hy⟩ := FJ (Int.fmod_nonneg_of_pos (pos : Int) (show (0 : Int) < 30 by decide)) (Int.fmod_lt_of_pos (pos : Int) (show (0 : Int) < 30 by decide))
  exact ir hy (done y)
theorem dH {b : Int} (D : DS xs pos T σ) (hx : ∀ v ∈ xs, ∃ z : Int, v = .int z) (hb : 0 < b) (Je : b < 1000000) (q : ∀ z σ', 0 <= z -> z < b -> SS xs 0 T σ (pos + 1) T σ' -> Q (.int z) σ') : cl (d + 1) 81 [.ref 3, .int b] σ Q :=
 nQ D hx hb Je fun z σ' a b c _ => q z σ' a b c
end
end
section
structure En where
 name : Nat
 mask : Int
 free : Bool
 aT : Bool
noncomputable def En.val (e : En) : V := .ae [.int e.mask, .bool e.free, .bool e.aT]
noncomputable def bV (L : List En) : List (V × V) := L.map fun e => (.str e.name, e.val)
noncomputable def En.dE (e : En) : Bool := e.name == 219 || e.name == 220
noncomputable def dP : List V := [.ae [.int 3, .str 214, .int 0], .ae [.int 3, .str 215, .int 0], .ae [.int 4, .int 1, .int 0], .ae [.int 1, .str 22], .ae [.int 1, .str 21]]
section
theorem qA : ∀ r ∈ dP, (∃ (k : Int) (l : List V), r = .ae (.int k :: l) /\ (k = 3 \/ k = 4 \/ k = 1) /\ (k = 3 \/ k = 4 -> (V.int k :: l).getLast? = some (.int 0)) /\ V.a5 6 r = true) /\ ∀ p ∈ [0, 1, 2, 6, 7, 8, 13, 14], aQ[p]? ≠ some r := by
 intro r hr
 have hp : ∀ p ∈ [0, 1, 2, 6, 7, 8, 13, 14], aQ[p]? ≠ some r := by
  intro p hp e
  have : (dP.all fun r => [0, 1, 2, 6, 7, 8, 13, 14].all fun p => match aQ[p]? with | some x => !V.beq x r | none => true) = true := rfl
  have h1 := List.all_eq_true.mp (List.all_eq_true.mp this r hr) p hp
  rw [e] at h1
  have h1 : (!V.beq r r) = true := h1
  rw [(V.eI r r).mpr rfl] at h1
  cases h1
 refine ⟨?_, hp⟩
 rcases List.mem_cons.mp hr with rfl | hr
 ·exact ⟨3, _, rfl, .inl rfl, fun _ => rfl, rfl⟩
 rcases List.mem_cons.mp hr with rfl | hr
 ·exact ⟨3, _, rfl, .inl rfl, fun _ => rfl, rfl⟩
 rcases List.mem_cons.mp hr with rfl | hr
 ·exact ⟨4, _, rfl, .inr (.inl rfl), fun _ => rfl, rfl⟩
 rcases List.mem_cons.mp hr with rfl | hr
 ·exact ⟨1, _, rfl, .inr (.inr rfl), fun h => by lia, rfl⟩
 ·rw [List.mem_singleton.mp hr]
  exact ⟨1, _, rfl, .inr (.inr rfl), fun h => by lia, rfl⟩
def l6 (T : cN) (p : Nat) : Prop := ∃ r ∈ dP, T.ak[p]? = some r
theorem l6.plain (R : TR T σ) {p : Nat} (h : l6 T p) : (∃ k, cS T p k /\ (k = 3 \/ k = 4 \/ k = 1)) /\ p ≠ 6 /\ p ≠ 7 := by
 obtain ⟨r, hr, e⟩ := h
 obtain ⟨⟨k, l, rfl, hk, hl, _⟩, eU⟩ := qA r hr
 have gI : ∀ i ∈ [0, 1, 2, 6, 7, 8, 13, 14], p ≠ i := fun i hi g => by
  subst g
  have fP : p < aQ.length := by
   simp only [List.mem_cons, List.not_mem_nil, or_false] at hi
   show p < 16
   lia
  have h1 := R.bN (List.getElem?_eq_getElem fP)
  rw [e] at h1
  exact eU p hi ((List.getElem?_eq_getElem fP).trans h1.symm)
 refine ⟨⟨k, ⟨fun h => ?_, by lia, by lia, by lia, l, e, fun h => ?_⟩, hk⟩, gI 6 (by decide), gI 7 (by decide)⟩
 ·exact gI p (by simp only [List.mem_cons, List.not_mem_nil, or_false] at h ⊢; lia) rfl
 ·refine ⟨0, hl ?_, by decide⟩
  rcases hk with h2 | h2 | h2
  ·exact .inl h2
  ·exact .inr h2
  ·subst h2; exact absurd h (by decide)
theorem l6.ext {p : Nat} (h : l6 T p) (x : bb k T T') : l6 T' p := h.imp fun _ p => ⟨p.1, x.row p.2⟩
theorem uQ : ∀ {is : List Nat}, (∀ i ∈ is, ∃ k, cS T i k) -> Fl T (dt is) is
 | [], _ => .nil
 | i :: is, h => by
  obtain ⟨k, hk⟩ := h i (.head _)
  exact .cons (qs := [i]) hk.gH (uQ fun j hj => h j (.tail _ hj))
theorem rV {mask : Int} (R : TR T σ) (hz : T.size < 999990) (q : ∀ T' σ' (k : Nat), TS 6 T σ T' σ' -> Q (.int k) σ') : cl (d + 4) 82 [.ref 4, .int mask] σ Q := by
 have h4 := R.aO
 refine uy ?_
 cbv
 refine c6.u0 (fun i : Nat => .int i) .pH (fB 5) (List.range 5) (fun dn _ acc ab => ∃ aZ is, acc = dt is /\ TS dn.length T σ aZ ab /\ is.length <= dn.length /\ ∀ p ∈ is, l6 aZ p) ?_ ?_ ?_
 ·cbv
  exact ⟨by decide, .cn rfl ⟨T, [], rfl, R.zI, Nat.le_refl _, fun _ h => nomatch h⟩⟩
 ·rintro dn i td _ ab hm ⟨aZ, is, rfl, J⟩
  have ts := J.1
  have PB := List.mem_range.mp (qy hm)
  have zG : dn.length + 1 <= 5 := eC hm
  have p7 : (dn ++ [i]).length = dn.length + 1 := List.length_append
  have h4 := ts.tr.aO
  have h2 : (0 : Int) < 2 ^ (i : Int).toNat /\ (2 : Int) ^ (i : Int).toNat < 1000000 := by
   have : ∀ j : Fin 5, (0 : Int) < 2 ^ j.val /\ (2 : Int) ^ j.val < 1000000 := by decide
   exact this ⟨i, PB⟩
  cbv
  refine ir (H4 (by lia)) ?_
  refine ir (yE h2) ?_
  cbv
  refine aj (fun _ => ?_) (fun _ => ?_)
  ·have hr : dP[i]? = some dP[i] := List.getElem?_eq_getElem PB
   have JY : dP[i] ∈ dP := List.getElem_mem PB
   obtain ⟨⟨k, l, e, hk, _, hn⟩, _⟩ := qA _ JY
   have jm := ts.ext.size
   cbv
   refine ir (o := vI dP i) (fh hr) ?_
   cbv
   refine bT (row := dP[i]) ts.tr (by lia) ?_ fun aD ah p gm hp _ _ => ?_
   ·rw [e]; exact eW.of (e ▸ hn) (by lia) (by lia)
   ·exact ⟨trivial, .next hm ⟨aD, is ++ [p], de .., p7 ▸ ts.trans gm, by rw [p7, List.length_append]; exact Nat.succ_le_succ J.2.1, fun p' Al => (List.mem_append.mp Al).elim (fun h => (J.2.2 p' h).ext gm.ext) fun h => by rw [List.mem_singleton.mp h]; exact ⟨_, JY, hp⟩⟩⟩
  ·exact ⟨trivial, .next hm ⟨aZ, is, rfl, p7 ▸ ts.up (Nat.le_succ _), p7 ▸ Nat.le_succ_of_le J.2.1, J.2.2⟩⟩
 ·rintro _ ab ⟨aZ, is, rfl, J⟩
  have ts : TS 5 T σ aZ ab := J.1
  have hl : is.length <= 5 := J.2.1
  have hK := J.2.2
  have jm := ts.ext.size
  refine ⟨by unfold dt; rw [List.length_map]; lia, ?_⟩
  refine gF (d := d) (ts.tr.push) (by lia) (ba ay) (uQ fun p hp => ((hK p hp).plain ts.tr).1.imp fun _ h => h.1) (by lia) (fun p hp => ?_) fun aD ah u gm _ _ _ => q aD ah u (((ts.keep .push).trans gm).up (by lia))
  obtain ⟨⟨k, h, hk⟩, _⟩ := (hK p hp).plain ts.tr
  refine ⟨k, h, fun p' Al e => ?_⟩
  obtain ⟨_, h6, h7⟩ := (hK p' Al).plain ts.tr
  rcases hk with rfl | rfl | rfl
  ·exact h6 (Int.ofNat.inj e)
  ·exact h7 (Int.ofNat.inj e)
  ·have e : (p' : Int) = -1 := e
   lia
end
end
variable {kvs : List (V × V)} {L : List En} {e : En}
section
structure Match (L : List En) (es : List j7) (c0 c1 : Option Nat) : Prop where
 uY : es.map (fun e => (e.name, e.free, e.aT)) = (L.filter fun e => !e.dE).map fun e => (e.name, e.free, e.aT)
 D9 : c0.isSome = L.any fun e => e.name == 219
 hash : c1.isSome = L.any fun e => e.name == 220
section
theorem jg {x v : V} (h : σ[n]? = some (.bq kvs)) (hk : x.kind = some .str) (hl : bJ kvs x = some v) : Gg n σ x v := .bq h hk hl
theorem xV {l : List V} {i : Nat} {v : V} (h : σ[n]? = some (.list l)) (hi : i < l.length) : Gd n v σ (.int i) (σ.set n (.list (l.set i v))) := .list h ⟨Int.natCast_nonneg _, Int.ofNat_lt.mpr hi⟩
theorem lx : ∀ {L : List En}, (L.map (·.name)).Nodup -> ∀ e ∈ L, bJ (bV L) (.str e.name) = some e.val
 | [], _, _, h => nomatch h
 | x :: L, hn, e, h => by
  unfold bJ bV
  rw [List.map_cons]
  rcases List.mem_cons.mp h with rfl | h
  ·rw [List.find?_cons_of_pos (by simp)]; rfl
  ·have eU : x.name ≠ e.name := fun g => (List.nodup_cons.mp hn).1 (List.mem_map.mpr ⟨e, h, g.symm⟩)
   rw [List.find?_cons_of_neg (by simpa using eU)]
   exact lx (List.nodup_cons.mp hn).2 e h
theorem uZ {x : Nat} : ∀ {L : List En}, (∀ e ∈ L, e.name ≠ x) -> bJ (bV L) (.str x) = none
 | [], _ => rfl
 | y :: L, h => by
  unfold bJ bV
  rw [List.map_cons, List.find?_cons_of_neg (by simpa using h y (.head _))]
  exact uZ fun e he => h e (.tail _ he)
theorem kF (e : En) : decide (V.str e.name ∈ [V.str 219, V.str 220]) = e.dE := by
 unfold En.dE
 by_cases h : e.name = 219 \/ e.name = 220
 ·rw [decide_eq_true (by simpa using h)]
  rcases h with h | h <;> rw [h] <;> rfl
 ·rw [decide_eq_false (by simpa using h)]
  rw [not_or] at h
  simp [h.1, h.2]
theorem jh : ∀ L : List En, (bV L).map (·.1) = L.map fun e => V.str e.name
 | [] => rfl
 | _ :: L => congrArg (_ :: ·) (jh L)
theorem iE {Q : PS} (h : σ[n]? = some (.dict .str kvs)) (q : Q (.j6 n kvs) (kvs.map (·.1)) (σ.set n (.bq kvs))) : N7 n σ Q := .dict h q
theorem dM {F G : V -> Prop} (f : ∀ v, F v -> G v) : ∀ (ρ : Env) (k : Nat), oh ρ k F -> oh ρ k G
 | some v :: _, 0, h => f v h
 | _ :: r, k + 1, h => dM f r k h
theorem Aw {cc : Cl} {ρ : Env} {k : Nat} {b : Bool} {i j : Int} (h : oh ρ k fun v => v = .bool b) (q : Q (.int (if b then i else j)) σ) : WE cc ρ (.ite (.aa k) (.lit (.int i)) (.lit (.int j))) σ Q := by
 refine dM ?_ _ _ h
 rintro _ rfl
 cases b
 ·exact q
 ·exact q
structure Nd where
 (a b c d : Option V) (T : cN) (es : List j7) (c0 c1 : Option Nat)
structure N9 (T : cN) (σ : ag) (n : Nat) (L dn : List En) (aZ : cN) (es : List j7) (c0 c1 : Option Nat) (ab : ag) : Prop where
 tr : TR aZ ab
 ext : bb (6 * dn.length) T aZ
 jP : ab[n]? = some (.bq (bV L))
 tJ : ab[σ.length]? = some (.list (es.map j7.jl))
 cells : ab[σ.length + 1]? = some (.list [cell c0, cell c1])
 yh : Match dn es c0 c1
 MH : es.length <= dn.length
 len : σ.length <= ab.length
 old : ∀ (a : Nat) o, σ[a]? = some o -> a < 5 \/ 10 < a -> a ≠ n -> ab[a]? = some o
section
variable {dn : List En} {aZ aD : cN} {es' : List j7} {c0' c1' : Option Nat} {ab ah : ag} {nm : Nat} {mask : Int} {fr cd : Bool} {p : Nat} {o : aN}
theorem N9.Hy (I : N9 T σ n L dn aZ es c0 c1 ab) (hn : 10 < n) (DG : n < σ.length) (ts : TS 6 aZ ab aD ah) (hp : σ.length <= p) (h1 : (ah.set p o)[σ.length]? = some (.list (es'.map j7.jl)))
  (h2 : (ah.set p o)[σ.length + 1]? = some (.list [cell c0', cell c1'])) (M : Match (dn ++ [e]) es' c0' c1') (Ut : es'.length <= dn.length + 1) : N9 T σ n L (dn ++ [e]) aD es' c0' c1' (ah.set p o) := by
 have hl : (dn ++ [e]).length = dn.length + 1 := List.length_append
 refine ⟨ts.tr.set (by lia), ?_, ?_, h1, h2, M, hl ▸ Ut, ?_, fun a o h g eU => ?_⟩
 ·rw [hl]; exact (I.ext.trans ts.ext).up (by lia)
 ·rw [au (by lia)]; exact ts.fr.old _ _ I.jP (.inr hn)
 ·rw [List.length_set]; exact Nat.le_trans I.len ts.fr.len
 ·have := (dX h)
  rw [au (by lia)]; exact ts.fr.old _ _ (I.old a o h g eU) g
theorem Match.m0 (M : Match dn es c0 c1) (k : Nat) : Match (dn ++ [⟨219, mask, fr, cd⟩]) es (some k) c1 :=
 ⟨by rw [M.uY, List.filter_append]; exact congrArg _ (List.append_nil _).symm, by rw [List.any_append]; exact (Bool.or_true _).symm, by rw [M.hash, List.any_append]; exact (Bool.or_false _).symm⟩
theorem Match.m1 (M : Match dn es c0 c1) (k : Nat) : Match (dn ++ [⟨220, mask, fr, cd⟩]) es c0 (some k) :=
 ⟨by rw [M.uY, List.filter_append]; exact congrArg _ (List.append_nil _).symm, by rw [M.D9, List.any_append]; exact (Bool.or_false _).symm, by rw [List.any_append]; exact (Bool.or_true _).symm⟩
theorem Match.m2 (M : Match dn es c0 c1) (k : Nat) (h : (nm == 219 || nm == 220) = false) : Match (dn ++ [⟨nm, mask, fr, cd⟩]) (es ++ [⟨nm, k, fr, cd⟩]) c0 c1 := by
 have h1 := (Bool.or_eq_false_iff.mp h).1
 have h2 := (Bool.or_eq_false_iff.mp h).2
 refine ⟨?_, ?_, ?_⟩
 ·rw [List.map_append, M.uY, List.filter_append, List.map_append, List.filter_cons_of_pos (p := fun e : En => !e.dE) (a := ⟨nm, mask, fr, cd⟩) (congrArg (!·) h)]; rfl
 ·rw [M.D9, List.any_append, List.any_cons, h1]; exact (Bool.or_false _).symm
 ·rw [M.hash, List.any_append, List.any_cons, h2]; exact (Bool.or_false _).symm
end
theorem HX (R : TR T σ) (hz : T.size + 100 < 999990) (ht : σ[n]? = some (.dict .str (bV L))) (hn : 10 < n) (s9 : (L.map (·.name)).Nodup) (hl : L.length <= 10)
  (q : ∀ T' σ' (t : Nat) es c0 c1, TS (6 * L.length + 1) T σ T' σ' -> T'.ak[t]? = some (cf es c0 c1) -> Match L es c0 c1 -> Q (.int t) σ') : cl (d + 5) 84 [.ref 4, .ref n] σ Q := by
 have DG := (dX ht)
 have DF := Nat.lt_trans hn DG
 refine wY ?_
 cbv
 refine cT.cv (fun e : En => .str e.name) (.j6 n (bV L)) ((bV L).map (·.1)) L (fun i : Nd => [some (.ref 4), some (.ref n), some (.ref σ.length), some (.ref (σ.length + 1)), i.a, i.b, i.c, i.d])
  (fun dn _ i ab => N9 T σ n L dn i.T i.es i.c0 i.c1 ab) ?_ ?_ ?_
 ·cbv
  have JV := aH (p := .list [.ae [], .ae []]) (aH (p := .list []) ht)
  refine iE JV ?_
  rw [List.length_append]
  refine .cn (jh _) (Nd.mk none none none none T [] none none) ?_
  refine ⟨(R.push.push).set hn, bb.refl, aE JV, ?_, ?_, ⟨rfl, rfl, rfl⟩, Nat.le_refl _, ?_, fun a o h _ eU => ?_⟩
  ·rw [au (Nat.ne_of_lt DG)]; exact aH ay
  ·rw [au (by lia)]
   have := ay (σ := σ ++ [.list []]) (p := .list [.ae [], .ae []])
   rw [List.length_append] at this; exact this
  ·rw [List.length_set, List.length_append, List.length_append]; lia
  ·rw [au eU.symm]; exact aH (aH h)
 ·intro dn e td i ab hL I
  have p7 := Nat.le_trans (eC hL) hl
  have jm := I.ext.size
  cbv
  refine aG (jg I.jP rfl (lx s9 e (qy hL))) ?_
  cbv
  obtain ⟨nm, mask, fr, cd⟩ := e
  refine jV (fun Py => ?_) (fun Py => ?_)
  ·have zE : nm = 219 \/ nm = 220 := by
    have := (kF ⟨nm, mask, fr, cd⟩).symm.trans Py
    exact (Bool.or_eq_true_iff.mp this).imp eq_of_beq eq_of_beq
   rcases zE with rfl | rfl
   ·cbv
    refine rV I.tr (by lia) fun aD ah k ts => ?_
    have GQ := ts.fr.old _ _ I.cells (.inr (by lia))
    cbv
    refine dI (xV (i := 0) GQ (Nat.le_of_ble_eq_true rfl)) ?_
    have J := I.Hy (c0' := some k) (p := σ.length + 1) (o := .list [cell (some k), cell i.c1]) hn DG ts (Nat.le_succ _) (by rw [au (by lia)]; exact ts.fr.old _ _ I.tJ (.inr DF)) (aE GQ) (I.yh.m0 (mask := mask) (fr := fr) (cd := cd) k) (Nat.le_succ_of_le I.MH)
    exact ⟨J.jP, .next hL (Nd.mk _ _ _ _ aD i.es (some k) i.c1) J⟩
   ·cbv
    refine rV I.tr (by lia) fun aD ah k ts => ?_
    have GQ := ts.fr.old _ _ I.cells (.inr (by lia))
    cbv
    refine dI (xV (i := 1) GQ (Nat.le_of_ble_eq_true rfl)) ?_
    have J := I.Hy (c1' := some k) (p := σ.length + 1) (o := .list [cell i.c0, cell (some k)]) hn DG ts (Nat.le_succ _) (by rw [au (by lia)]; exact ts.fr.old _ _ I.tJ (.inr DF)) (aE GQ) (I.yh.m1 (mask := mask) (fr := fr) (cd := cd) k) (Nat.le_succ_of_le I.MH)
    exact ⟨J.jP, .next hL (Nd.mk _ _ _ _ aD i.es i.c0 (some k)) J⟩
  ·have LY := (kF ⟨nm, mask, fr, cd⟩).symm.trans Py
   refine eF I.tJ rfl ?_
   cbv
   refine rV I.tr (by lia) fun aD ah k ts => ?_
   have LR := ts.fr.old _ _ I.tJ (.inr DF)
   refine Aw rfl ?_
   refine Aw rfl ?_
   cbv
   have hf := I.MH
   refine cw LR (by rw [List.length_map]; lia) ?_
   have J := I.Hy (es' := i.es ++ [⟨nm, k, fr, cd⟩]) (p := σ.length) (o := .list (i.es.map j7.jl ++ [j7.jl ⟨nm, k, fr, cd⟩])) hn DG ts (Nat.le_refl _) (by rw [List.map_append]; exact aE LR) (by rw [au (by lia)]; exact ts.fr.old _ _ I.cells (.inr (by lia))) (I.yh.m2 (mask := mask) k LY) (by rw [List.length_append]; exact Nat.succ_le_succ hf)
   exact ⟨J.jP, .next hL (Nd.mk _ _ _ _ aD (i.es ++ [⟨nm, k, fr, cd⟩]) i.c0 i.c1) J⟩
 ·intro i ab I
  have jm := I.ext.size
  refine ⟨I.jP, ?_⟩
  have R2 : TR i.T (ab.set n (.dict .str (bV L))) := I.tr.set hn
  have GQ : (ab.set n (.dict .str (bV L)))[σ.length + 1]? = _ := (au (by lia)).trans I.cells
  have F2 : Fr σ (ab.set n (.dict .str (bV L))) := ⟨by rw [List.length_set]; exact I.len, fun a o h g => by
   by_cases e : a = n
   ·rw [e] at h ⊢
    rw [ht] at h
    rw [<- h]; exact aE I.jP
   ·rw [au (fun g => e g.symm)]; exact I.old a o h g e⟩
  have h4 := R2.aO
  cbv
  refine jJ ((au (by lia)).trans I.tJ) ?_
  cbv
  refine aG (cD GQ rfl) ?_
  cbv
  refine aG (cD GQ rfl) ?_
  cbv
  refine bT (row := cf i.es i.c0 i.c1) R2 (by lia) (eW.of ?_ (by decide) (by decide)) fun aD ah t ts hr _ _ => q aD ah t i.es i.c0 i.c1 ⟨ts.tr, I.ext.trans ts.ext, F2.trans ts.fr⟩ hr I.yh
  show (true && (V.a5 5 (.ae (i.es.map j7.jl)) && (true && (true && (V.a5 5 (cell i.c0) && (V.a5 5 (cell i.c1) && (true && true))))))) = true
  rw [oa, i9, i9]; rfl
end
end
section
noncomputable def fU : List Int := [1, 2, 3, 4, 17, 7]
def Aj (e : En) : Prop := ((e.name = 217 \/ e.name = 218) /\ e.mask ∈ fU) \/ ((e.name = 219 /\ e.mask = 7 \/ e.name = 220 /\ e.mask = 3) /\ e.free = false /\ e.aT = false)
structure ff (L : List En) : Prop where
 nd : (L.map (·.name)).Nodup
 ne : L ≠ []
 ok : ∀ e ∈ L, Aj e
 len : L.length <= 4
section
theorem lu {e : En} (h : ∀ x ∈ L, x.name ≠ e.name) : cP (bV L) (.str e.name) e.val = bV (L ++ [e]) := by
 rw [u3 (uZ h)]
 unfold bV; rw [List.map_append]; rfl
theorem hV : (bV L).length = L.length := List.length_map _
theorem ja {e : En} (h : (L.map (·.name)).Nodup) (hn : ∀ x ∈ L, x.name ≠ e.name) : ((L ++ [e]).map (·.name)).Nodup := by
 rw [List.map_append]
 refine List.nodup_append.mpr ⟨h, .cons (fun _ h => nomatch h) .nil, fun a ha b hb g => ?_⟩
 obtain ⟨x, hx, rfl⟩ := List.mem_map.mp ha
 rw [List.mem_singleton.mp hb] at g
 exact hn x hx g
theorem EO {z : Int} (h0 : 0 <= z) (h : z < 48) : ∃ y ∈ fU, vI [V.int 1, V.int 2, V.int 3, V.int 4, V.int 17, V.int 7] (z.fdiv 8) = some (.int y) := by
 have e : z.fdiv 8 = z / 8 := Int.fdiv_eq_ediv_of_nonneg _ (by decide)
 obtain ⟨i, hi, e⟩ : ∃ i : Nat, i < 6 /\ z.fdiv 8 = i := ⟨(z / 8).toNat, by lia, by lia⟩
 rw [e]
 exact ⟨fU[i], List.getElem_mem hi, fh (l := fU.map .int) (by rw [List.getElem?_map, List.getElem?_eq_getElem hi]; rfl)⟩
theorem rC {e : En} (h : σ[n]? = some (.dict .str (bV L))) (hn : ∀ x ∈ L, x.name ≠ e.name) (hl : L.length < 1000000) : Gd n e.val σ (.str e.name) (σ.set n (.dict .str (bV (L ++ [e])))) :=
 lu hn ▸ cg h rfl (by rw [hV]; exact hl)
theorem BV {kvs : List (V × V)} (h : σ[n]? = some (.dict .str kvs)) (q : Q (.int kvs.length) σ) : Gi .len n σ Q := .mk (.Lp h (fun e => nomatch e)) q
theorem SS.set {a : Nat} {o : aN} (x : SS xs k T σ cI T' σ') (h : σ.length <= a) (jn : 22 < σ.length) : SS xs k T σ cI T' (σ'.set a o) := by
 have z : ∀ (b : Nat) p, σ'[b]? = some p -> b ≠ a -> (σ'.set a o)[b]? = some p := fun b p e g => by rw [au g.symm]; exact e
 refine ⟨⟨x.ds.tr.set (by lia), z _ _ x.ds.d3 (by lia), z _ _ x.ds.d2 (by lia)⟩, x.ext, ⟨by rw [List.length_set]; exact x.fr.len, fun b p e g => ?_⟩⟩
 have := (dX e)
 exact z _ _ (x.fr.old b p e g) (by lia)
structure Oc where
 (a b : Option V) (pos : Nat) (L : List En)
theorem zm (D : DS xs pos T σ) (jn : 22 < σ.length) (hx : ∀ v ∈ xs, ∃ z : Int, v = .int z) (q : ∀ σ' cI L, SS xs 0 T σ cI T σ' -> σ'[σ.length]? = some (.dict .str (bV L)) -> ff L -> Q (.ref σ.length) σ') : cl (d + 2) 83 [.ref 3] σ Q := by
 refine pQ ?_
 cbv
 refine cT.cv (fun x : Nat => .str x) (.seq (.ae [.str 217, .str 218])) [.str 217, .str 218] [217, 218] (fun i : Oc => [some (.ref 3), some (.ref σ.length), i.a, i.b, none])
  (fun dn _ i ab => SS xs 0 T σ i.pos T ab /\ ab[σ.length]? = some (.dict .str (bV i.L)) /\ (i.L.map (·.name)).Nodup /\ (∀ e ∈ i.L, (e.name = 217 \/ e.name = 218) /\ e.mask ∈ fU /\ e.name ∈ dn) /\ i.L.length <= dn.length) ?_ ?_ ?_
 ·change Ah _ _ _ _ _ _ _ _ _ _ _
  refine .cn (by rfl) (Oc.mk _ _ pos []) ?_
  exact ⟨D.zI.keep .push, ay, .nil, (fun _ h => nomatch h), Nat.le_refl _⟩
 ·intro dn nm td i ab hm J
  have zE : nm = 217 \/ nm = 218 := (List.mem_cons.mp (qy hm)).imp_right List.mem_singleton.mp
  have s9 : (dn ++ nm :: td).Nodup := hm ▸ (by decide)
  have eU : ∀ e ∈ i.L, e.name ≠ nm := fun e he => (List.nodup_append.mp s9).2.2 e.name (J.2.2.2.1 e he).2.2 nm (.head _)
  have cQ := J.2.2.2.2
  have GP : dn.length + 1 <= 2 := eC hm
  have p7 : (dn ++ [nm]).length = dn.length + 1 := List.length_append
  have hL : ∀ e ∈ i.L, (e.name = 217 \/ e.name = 218) /\ e.mask ∈ fU /\ e.name ∈ dn ++ [nm] := fun e he => ⟨(J.2.2.2.1 e he).1, (J.2.2.2.1 e he).2.1, List.mem_append.mpr (.inl (J.2.2.2.1 e he).2.2)⟩
  cbv
  refine dH J.1.ds hx (by decide) (by decide) fun z ah E5 hz X2 => ?_
  have Cn := X2.fr.old _ _ J.2.1 (by lia)
  have X3 := J.1.trans X2
  obtain ⟨mk, Ua, NG⟩ := EO E5 hz
  cbv
  refine aj (fun _ => ?_) (fun _ => ?_)
  ·cbv
   refine ir NG ?_
   cbv
   refine dI (rC (e := ⟨nm, mk, decide (z.fmod 4 = 2), decide ((z.fdiv 4).fmod 2 = 1)⟩) Cn eU (by lia)) ?_
   refine ⟨rfl, .next hm (Oc.mk _ _ (i.pos + 1) (i.L ++ [⟨nm, mk, decide (z.fmod 4 = 2), decide ((z.fdiv 4).fmod 2 = 1)⟩])) ?_⟩
   refine ⟨X3.set (Nat.le_refl _) jn, aE Cn, ja J.2.2.1 eU, fun e he => (List.mem_append.mp he).elim (hL e) fun he => ?_, by rw [List.length_append, p7]; exact Nat.succ_le_succ cQ⟩
   ·rw [List.mem_singleton.mp he]
    exact ⟨zE, Ua, List.mem_append.mpr (.inr (.head _))⟩
  ·cbv
   refine ⟨rfl, .next hm (Oc.mk _ _ (i.pos + 1) i.L) ?_⟩
   exact ⟨X3, Cn, J.2.2.1, hL, p7 ▸ Nat.le_succ_of_le cQ⟩
 ·intro i ab J
  have cQ : i.L.length <= 2 := J.2.2.2.2
  have hL := J.2.2.2.1
  cbv
  refine dH J.1.ds hx (by decide) (by decide) fun z ah E5 hz X2 => ?_
  have Cn := X2.fr.old _ _ J.2.1 (by lia)
  have X3 := J.1.trans X2
  refine eY (fun aA => ∃ L, SS xs 0 T σ (i.pos + 1) T aA /\ aA[σ.length]? = some (.dict .str (bV L)) /\ (L.map (·.name)).Nodup /\ (∀ e ∈ L, Aj e /\ e.name ≠ 220) /\ L.length <= 3) (fun kk => ?_) ?_
  ·cbv
   cbv
   have Pq : ∀ e ∈ i.L, e.name ≠ 219 /\ e.name ≠ 220 := fun e he => by have := (hL e he).1; lia
   have hE : ∀ e ∈ i.L, Aj e /\ e.name ≠ 220 := fun e he => ⟨.inl ⟨(hL e he).1, (hL e he).2.1⟩, (Pq e he).2⟩
   refine aj (fun _ => ?_) (fun _ => kk _ ⟨i.L, X3, Cn, J.2.2.1, hE, Nat.le_succ_of_le cQ⟩)
   cbv
   refine dI (rC (e := ⟨219, 7, false, false⟩) Cn (fun e he => (Pq e he).1) (by lia)) ?_
   exact kk _ ⟨i.L ++ [⟨219, 7, false, false⟩], X3.set (Nat.le_refl _) jn, aE Cn, ja J.2.2.1 fun e he => (Pq e he).1, fun e he => (List.mem_append.mp he).elim (hE e) fun he => by
    rw [List.mem_singleton.mp he]
    exact ⟨.inr ⟨.inl ⟨rfl, rfl⟩, rfl, rfl⟩, by decide⟩, by rw [List.length_append]; exact Nat.succ_le_succ cQ⟩
  rintro aA ⟨L, K⟩
  have Nx := K.2.2.2.2
  refine eY (fun bc => ∃ L, SS xs 0 T σ (i.pos + 1) T bc /\ bc[σ.length]? = some (.dict .str (bV L)) /\ (L.map (·.name)).Nodup /\ (∀ e ∈ L, Aj e) /\ L.length <= 4) (fun kk => ?_) ?_
  ·cbv
   refine aj (fun _ => ?_) (fun _ => kk _ ⟨L, K.1, K.2.1, K.2.2.1, fun e he => (K.2.2.2.1 e he).1, Nat.le_succ_of_le Nx⟩)
   cbv
   refine dI (rC (e := ⟨220, 3, false, false⟩) K.2.1 (fun e he => (K.2.2.2.1 e he).2) (by lia)) ?_
   exact kk _ ⟨L ++ [⟨220, 3, false, false⟩], K.1.set (Nat.le_refl _) jn, aE K.2.1, ja K.2.2.1 fun e he => (K.2.2.2.1 e he).2, fun e he => (List.mem_append.mp he).elim (fun he => (K.2.2.2.1 e he).1) fun he => by
    rw [List.mem_singleton.mp he]
    exact .inr ⟨.inr ⟨rfl, rfl⟩, rfl, rfl⟩, by rw [List.length_append]; exact Nat.succ_le_succ Nx⟩
  rintro bc ⟨L, M⟩
  refine eY (fun bg => ∃ L, SS xs 0 T σ (i.pos + 1) T bg /\ bg[σ.length]? = some (.dict .str (bV L)) /\ ff L) (fun kk => ?_) ?_
  ·cbv
   refine BV M.2.1 ?_
   cbv
   refine aj (fun e => ?_) (fun e => ?_)
   ·cbv
    refine dI (cg M.2.1 rfl (by rw [hV]; lia)) ?_
    have e0 : L = [] := by rw [hV] at e; exact List.length_eq_zero_iff.mp (Int.ofNat.inj e)
    refine kk _ ⟨[⟨217, 1, false, false⟩], M.1.set (Nat.le_refl _) jn, by rw [aE M.2.1, e0]; rfl, .cons (fun _ h => nomatch h) .nil, (fun h => nomatch h), fun e he => ?_, by decide⟩
    rw [List.mem_singleton.mp he]
    exact .inl ⟨.inl rfl, by decide⟩
   ·exact kk _ ⟨L, M.1, M.2.1, M.2.2.1, fun h => e (by rw [h]; rfl), M.2.2.2.1, M.2.2.2.2⟩
  rintro bg ⟨L, O⟩
  cbv
  exact q bg _ L O.1 O.2.1 O.2.2
end
end
section
noncomputable def iq : En := ⟨223, 2, false, false⟩
noncomputable def cz (L : List En) : List En := L.map fun e => { e with aT := !e.dE }
noncomputable def fu (L : List En) : List En := if L.any (fun e => e.name == 220) then L else L ++ [⟨220, 7, false, false⟩]
noncomputable def bZ (L : List En) : List (List En) := [L, L ++ [iq], cz (L ++ [iq]), fu L]
def eJ (σ : ag) : List Nat -> List (List En) -> Prop
 | [], [] => True
 | a :: as, L :: Ls => (22 < a /\ σ[a]? = some (.dict .str (bV L))) /\ eJ σ as Ls
 | _, _ => False
def dc (σ : ag) (r : Nat) (Ls : List (List En)) : Prop := 22 < r /\ ∃ as : List Nat, σ[r]? = some (.list (as.map .ref)) /\ eJ σ as Ls
section
theorem qV (h : σ[n]? = some (.dict .str kvs)) (q : Q (.ref σ.length) (σ ++ [.dict .str kvs])) : Gi .dict n σ Q := .mk (.dict h) q
theorem rE {M : List aN} {i : Nat} {o : aN} : (σ ++ M).set (σ.length + i) o = σ ++ M.set i o := by
 rw [List.set_append_right _ _ (Nat.le_add_right _ _), Nat.add_sub_cancel_left]
theorem aV.Hd {M : List aN} : aV σ (σ ++ M) := ⟨by rw [List.length_append]; lia, fun a o h => by rw [List.getElem?_append_left (dX h)]; exact h⟩
theorem Dh {x : Nat} : (bJ (bV L) (.str x)).isSome = L.any fun e => e.name == x := by
 induction L with
 | nil => rfl
 | cons e L ih =>
  unfold bJ bV at ih ⊢
  rw [List.map_cons, List.any_cons]
  by_cases h : e.name = x
  ·rw [List.find?_cons_of_pos (by simpa using h), h, beq_self_eq_true]; rfl
  ·rw [List.find?_cons_of_neg (by simpa using h), beq_false_of_ne h, Bool.false_or]; exact ih
theorem qj (jn : 22 < n) (hs : 22 < σ.length) (ht : σ[n]? = some (.dict .str (bV L))) (s9 : (L.map (·.name)).Nodup) (hz : ∀ e ∈ L, e.name ≠ 223) (hl : L.length <= 10) (q : ∀ σ' r, aV σ σ' -> dc σ' r (bZ L) -> Q (.ref r) σ') : cl (d + 1) 85 [.ref n] σ Q := by
 have Po := ja (e := iq) s9 hz
 refine pO ?_
 cbv
 refine qV ht ?_
 cbv
 refine dI (cg ay rfl (by rw [hV]; lia)) ?_
 rw [xW]
 rw [show cP (bV L) (.str 223) (.ae [.int 2, .bool false, .bool false]) = bV (L ++ [iq]) from lu (e := iq) hz]
 cbv
 refine cT.cv (fun e : En => .str e.name) (.j6 σ.length (bV (L ++ [iq]))) ((bV (L ++ [iq])).map (·.1)) (L ++ [iq]) (fun i : E8 => [some (.ref n), some (.ref σ.length), some (.ref (σ.length + 1)), i.a, i.b, i.c, i.d, none])
  (fun dn _ _ ab => σ ++ [.bq (bV (L ++ [iq])), .dict .str (bV (cz dn))] = ab) ?_ ?_ ?_
 ·cbv
  refine iE (n := σ.length) (aH ay) ?_
  rw [List.length_append, List.append_assoc]
  refine .cn (jh _) E8.o ?_
  exact (rE (σ := σ) (M := [.dict .str (bV (L ++ [iq])), .dict .str []]) (i := 0)).symm
 ·rintro dn e td i _ hm rfl
  have eU : ∀ x ∈ cz dn, x.name ≠ e.name := fun x hx g => by
   obtain ⟨y, hy, rfl⟩ := List.mem_map.mp hx
   rw [<- hm, List.map_append] at Po
   exact (List.nodup_append.mp Po).2.2 y.name (List.mem_map.mpr ⟨y, hy, rfl⟩) e.name (.head _) g
  have p7 := eC hm
  rw [List.length_append, List.length_singleton] at p7
  cbv
  refine aG (jg (cF 0) rfl (lx Po e (qy hm))) ?_
  cbv
  refine dI (cg (cF 1) rfl (by rw [hV]; unfold cz; rw [List.length_map]; lia)) ?_
  rw [rE]
  have hd : cP (bV (cz dn)) (.str e.name) (.ae [.int e.mask, .bool e.free, .bool (!decide (V.str e.name ∈ [V.str 219, V.str 220]))]) = bV (cz (dn ++ [e])) := by
   rw [kF]
   refine (lu (e := { e with aT := !e.dE }) eU).trans ?_
   unfold cz; rw [List.map_append]; rfl
  refine ⟨?_, .next hm (E8.p4 _ _ _ _) ?_⟩
  ·show (σ ++ [aN.bq (bV (L ++ [iq])), _])[σ.length]? = _
   exact cF 0
  ·show _ = σ ++ [aN.bq (bV (L ++ [iq])), .dict .str (cP (bV (cz dn)) (.str e.name) _)]
   rw [<- hd]
 ·rintro i _ rfl
  refine ⟨(cF 0), ?_⟩
  rw [show (σ ++ [aN.bq (bV (L ++ [iq])), .dict .str (bV (cz (L ++ [iq])))]).set σ.length (.dict .str (bV (L ++ [iq]))) = σ ++ [.dict .str (bV (L ++ [iq])), .dict .str (bV (cz (L ++ [iq])))] from rE (i := 0)]
  have JV := (aV.Hd (M := [.dict .str (bV (L ++ [iq])), .dict .str (bV (cz (L ++ [iq])))])).old _ _ ht
  cbv
  refine qV JV ?_
  have cQ : (σ ++ [aN.dict .str (bV (L ++ [iq])), .dict .str (bV (cz (L ++ [iq])))]).length = σ.length + 2 := by rw [List.length_append]; rfl
  rw [cQ, List.append_assoc]
  have h2 : (σ ++ ([aN.dict .str (bV (L ++ [iq])), .dict .str (bV (cz (L ++ [iq])))] ++ [.dict .str (bV L)]))[σ.length + 2]? = some (.dict .str (bV L)) := cF 2
  refine eY (fun aA => aA = σ ++ [.dict .str (bV (L ++ [iq])), .dict .str (bV (cz (L ++ [iq]))), .dict .str (bV (fu L))]) (fun kk => ?_) ?_
  ·cbv
   refine dD (.d9 (cK h2 rfl)) ?_
   rw [Dh]
   cases ha : L.any (fun e => e.name == 220) with
   | true =>
    refine kk _ ?_
    unfold fu; rw [if_pos ha]; rfl
   | false =>
    have eU : ∀ e ∈ L, e.name ≠ 220 := fun e he g => by
     have := List.any_eq_false.mp ha e he
     rw [g] at this; exact this rfl
    cbv
    refine dI (cg h2 rfl (by rw [hV]; lia)) ?_
    refine kk _ ?_
    rw [rE, show cP (bV L) (.str 220) (.ae [.int 7, .bool false, .bool false]) = bV (L ++ [⟨220, 7, false, false⟩]) from lu (e := ⟨220, 7, false, false⟩) eU]
    unfold fu; rw [ha]; rfl
  rintro aA rfl
  cbv
  have K : aV σ (σ ++ [.dict .str (bV (L ++ [iq])), .dict .str (bV (cz (L ++ [iq]))), .dict .str (bV (fu L))] ++ [.list [.ref n, .ref σ.length, .ref (σ.length + 1), .ref (σ.length + 2)]]) := aV.Hd.trans .push
  refine q _ _ K ⟨by rw [List.length_append]; lia, [n, σ.length, σ.length + 1, σ.length + 2], ay, ⟨jn, K.old _ _ ht⟩, ⟨hs, aH (cF 0)⟩, ⟨by lia, aH (cF 1)⟩, ⟨by lia, aH (cF 2)⟩, trivial⟩
end
end
variable {Ls : List (List En)} {stay : Bool} {extra : Int}
section
noncomputable def En.qH (e : En) : Int := if e.free then Builtin.bitOr e.mask 16 else e.mask
noncomputable def En.kO (opt extra : Int) (e : En) : Int := if opt = 1 then Builtin.bitOr (Builtin.bitOr e.qH extra) 16 else Builtin.bitOr e.qH extra
noncomputable def yN (opt extra : Int) (e : En) : List Int := if e.dE = true /\ ((e.kO opt extra).fdiv 16).fmod 2 = 0 then [5] else []
noncomputable def G7 (opt extra : Int) (e : En) : List Int := if e.kO opt extra ≠ e.qH then [3] else []
noncomputable def An (e : En) : List Int := if e.aT then [4] else []
noncomputable def lU (stay own : Bool) (opt ro extra : Int) (e : En) : List Int :=
 if e.dE && own then [] else yN opt extra e ++ (if ro = 1 \/ (ro = 0 /\ stay = true /\ e.aT = true) then [] else An e ++ G7 opt extra e)
noncomputable def dG (stay own : Bool) (opt ro extra : Int) (Ls : List (List En)) : List Int := Ls.flatMap fun L => L.flatMap (lU stay own opt ro extra)
section
variable {own : Bool}
def WV (cc : Cl) (ρ : Env) (e : E) (σ : ag) (v : V) : Prop := ∀ Q : PQ, Q v σ -> WE cc ρ e σ Q
theorem rh {cc : Cl} {ρ : Env} {g a b : E} {t : Bool} {x y : Int} (hg : WV cc ρ g σ (.bool t)) (ha : WV cc ρ a σ (.int x)) (hb : WV cc ρ b σ (.int y)) (q : Q (.int (if t then x else y)) σ) : WE cc ρ (.ite g a b) σ Q := by
 refine hg _ ?_
 cases t
 ·exact hb Q q
 ·exact ha Q q
theorem fj {cc : Cl} {ρ : Env} {g g' : E} {es : EL} {b1 b2 : Bool} (h1 : WV cc ρ g σ (.bool b1)) (h2 : WV cc ρ (.and (.cons g' es)) σ (.bool b2)) : WV cc ρ (.and (.cons g (.cons g' es))) σ (.bool (b1 && b2)) := fun Q q => by
 refine h1 _ ?_
 cases b1 with
 | false => exact q
 | true => exact h2 Q q
theorem CK {cc : Cl} {ρ : Env} {g g' : E} {es : EL} {b1 b2 : Bool} (h1 : WV cc ρ g σ (.bool b1)) (h2 : WV cc ρ (.or (.cons g' es)) σ (.bool b2)) : WV cc ρ (.or (.cons g (.cons g' es))) σ (.bool (b1 || b2)) := fun Q q => by
 refine h1 _ ?_
 cases b1 with
 | true => exact q
 | false => exact h2 Q q
theorem Qc {cc : Cl} {ρ : Env} {a b : E} {x y : Int} (ha : WV cc ρ a σ (.int x)) (hb : WV cc ρ b σ (.int y)) : WV cc ρ (.aB .eq a b) σ (.bool (decide (x = y))) := fun _ q => ha _ (hb _ q)
theorem NS {cc : Cl} {ρ : Env} {a b : E} {x y : Int} (h : 0 < y /\ y < 1000000) (ha : WV cc ρ a σ (.int x)) (hb : WV cc ρ b σ (.int y)) : WV cc ρ (.fQ .mod a b) σ (.int (x.fmod y)) := fun _ q => ha _ (hb _ (ir (BN h) q))
theorem MK {cc : Cl} {ρ : Env} {a b : E} {x y : Int} (h : 0 < y /\ y < 1000000) (ha : WV cc ρ a σ (.int x)) (hb : WV cc ρ b σ (.int y)) : WV cc ρ (.fQ .fdiv a b) σ (.int (x.fdiv y)) := fun _ q => ha _ (hb _ (ir (yE h) q))
theorem rl {cc : Cl} {ρ : Env} {g g' : E} {es : EL} {b1 b2 : Bool} (h1 : WV cc ρ g σ (.bool b1)) (h2 : WV cc ρ (.and (.cons g' es)) σ (.bool b2)) (k : Q (.bool (b1 && b2)) σ) : WE cc ρ (.and (.cons g (.cons g' es))) σ Q := fj h1 h2 Q k
theorem Gl {cc : Cl} {ρ : Env} {g g' : E} {es : EL} {b1 b2 : Bool} (h1 : WV cc ρ g σ (.bool b1)) (h2 : WV cc ρ (.or (.cons g' es)) σ (.bool b2)) (k : Q (.bool (b1 || b2)) σ) : WE cc ρ (.or (.cons g (.cons g' es))) σ Q := CK h1 h2 Q k
theorem C0 (e : En) : (lU stay own opt ro extra e).length <= 3 := by
 unfold lU yN G7 An
 (repeat' split) <;> simp
theorem sR : ∀ (L : List En), (L.flatMap (lU stay own opt ro extra)).length <= 3 * L.length
 | [] => Nat.le_refl _
 | e :: L => by
  rw [List.flatMap_cons, List.length_append, List.length_cons]
  have := C0 (stay := stay) (own := own) (opt := opt) (ro := ro) (extra := extra) e
  have := sR L
  lia
theorem lJ : ∀ (Ls : List (List En)), (∀ L ∈ Ls, L.length <= 10) -> (dG stay own opt ro extra Ls).length <= 30 * Ls.length
 | [], _ => Nat.le_refl _
 | L :: Ls, h => by
  have h1 := lJ Ls fun x hx => h x (.tail _ hx)
  have h2 := sR (stay := stay) (own := own) (opt := opt) (ro := ro) (extra := extra) L
  have h3 := h L (.head _)
  unfold dG at h1 ⊢
  rw [List.flatMap_cons, List.length_append, List.length_cons]
  lia
structure Ao (σ : ag) (a f : Nat) (kv : List (V × V)) (F : List Int) (ab : ag) : Prop where
 jP : ab[a]? = some (.bq kv)
 yC : ab[f]? = some (.list (F.map .int))
 len : σ.length <= ab.length
 old : ∀ (b : Nat) o, σ[b]? = some o -> b ≠ a -> b ≠ f -> ab[b]? = some o
theorem Ao.add {a f : Nat} {F : List Int} {z : Int} (x : Ao σ a f kvs F σ') (h : a ≠ f) : Ao σ a f kvs (F ++ [z]) (σ'.set f (.list (F.map .int ++ [.int z]))) :=
 ⟨by rw [au h.symm]; exact x.jP, by rw [List.map_append]; exact aE x.yC, by rw [List.length_set]; exact x.len, fun b o h1 h2 h3 => by rw [au h3.symm]; exact x.old b o h1 h2 h3⟩
theorem DY {a f : Nat} {F : List Int} {e : En} {y : Option V} (I : Ao σ a f (bV L) F σ') (UG : a ≠ f) (s9 : (L.map (·.name)).Nodup) (he : e ∈ L) (hF : F.length < 999990) {y1 y2 y3 y4 y5 y6 : Option V}
  {Φ : PF} (q : ∀ fl ab y1 y2 y3 y4 y5 y6, fl = .next \/ fl = .cont -> Ao σ a f (bV L) (F ++ lU stay own opt ro extra e) ab -> Φ fl [y, some (.bool stay), some (.bool own), some (.int opt), some (.int ro), some (.int extra), some (.ref f), some (.ref a), some (.str e.name), y1, y2, y3, y4, y5, y6] ab) :
  WX (cl d) (.cons (.iB [9, 10, 11] (.sub (.aa 7) (.aa 8))) (.cons (.assign 12 (.aB .bt (.aa 8) (.ae (.cons (.lit (.str 219)) (.cons (.lit (.str 220)) .nil))))) (.cons (.assign 13 (.ite (.aa 10) (.fQ .C3 (.aa 9) (.lit (.int 16))) (.aa 9))) (.cons (.assign 14 (.ite (.aB .eq (.aa 3) (.lit (.int 1))) (.fQ .C3 (.fQ .C3 (.aa 13) (.aa 5)) (.lit (.int 16))) (.fQ .C3 (.aa 13) (.aa 5)))) (.cons (.ite (.and (.cons (.aa 12) (.cons (.aa 2) .nil))) (.cons .cont .nil) .nil) (.cons (.ite (.and (.cons (.aa 12) (.cons (.aB .eq (.fQ .mod (.fQ .fdiv (.aa 14) (.lit (.int 16))) (.lit (.int 2))) (.lit (.int 0))) .nil))) (.cons (.expr (.aM (.aa 6) 0 (.cons (.lit (.int 5)) .nil))) .nil) .nil) (.cons (.ite (.or (.cons (.aB .eq (.aa 4) (.lit (.int 1))) (.cons (.and (.cons (.aB .eq (.aa 4) (.lit (.int 0))) (.cons (.aa 1) (.cons (.aa 11) .nil)))) .nil))) (.cons .cont .nil) .nil) (.cons (.ite (.aa 11) (.cons (.expr (.aM (.aa 6) 0 (.cons (.lit (.int 4)) .nil))) .nil) .nil) (.cons (.ite (.aB .ne (.aa 14) (.aa 13)) (.cons (.expr (.aM (.aa 6) 0 (.cons (.lit (.int 3)) .nil))) .nil) .nil) .nil)))))))))
   [y, some (.bool stay), some (.bool own), some (.int opt), some (.int ro), some (.int extra), some (.ref f), some (.ref a), some (.str e.name), y1, y2, y3, y4, y5, y6] σ' Φ := by
 cbv
 refine aG (jg I.jP rfl (lx s9 e he)) ?_
 refine rh (t := e.free) (x := Builtin.bitOr e.mask 16) (y := e.mask) (fun _ q => q) (fun _ q => q) (fun _ q => q) ?_
 rw [show (if e.free = true then Builtin.bitOr e.mask 16 else e.mask) = e.qH from rfl]
 refine rh (t := decide (opt = 1)) (x := Builtin.bitOr (Builtin.bitOr e.qH extra) 16) (y := Builtin.bitOr e.qH extra) (fun _ q => q) (fun _ q => q) (fun _ q => q) ?_
 rw [show (if decide (opt = 1) = true then Builtin.bitOr (Builtin.bitOr e.qH extra) 16 else Builtin.bitOr e.qH extra) = e.kO opt extra by unfold En.kO; by_cases h : opt = 1 <;> simp [h]]
 have step : ∀ {F' : List Int} {ab : ag} {z : Int} {ρ : Env}, Ao σ a f (bV L) F' ab -> F'.length < 999999 -> (oh ρ 6 fun v => v = .ref f) -> ∀ {Ψ : PF}, (∀ ah, Ao σ a f (bV L) (F' ++ [z]) ah -> Ψ .next ρ ah) -> WX (cl d) (.cons (.expr (.aM (.aa 6) 0 (.cons (.lit (.int z)) .nil))) .nil) ρ ab Ψ := fun {F' ab z ρ} I' hl h6 {Ψ} k => by
  refine dM ?_ _ _ h6
  rintro _ rfl
  refine eF I'.yC rfl ?_
  cbv
  refine cw I'.yC (by rw [List.length_map]; lia) ?_
  exact k _ (I'.add UG)
 have e1 := C0 (stay := stay) (own := own) (opt := opt) (ro := ro) (extra := extra) e
 refine rl (b1 := decide (V.str e.name ∈ [V.str 219, V.str 220])) (b2 := own) (fun _ q => q) (fun _ q => q) (jV (fun h => ?_) (fun h => ?_)) <;> rw [kF e] at h
 ·exact q .cont σ' _ _ _ _ _ _ (.inr rfl) (by unfold lU; rw [if_pos h, List.append_nil]; exact I)
 have NB : lU stay own opt ro extra e = yN opt extra e ++ (if ro = 1 \/ (ro = 0 /\ stay = true /\ e.aT = true) then [] else An e ++ G7 opt extra e) := by
  unfold lU; rw [if_neg (by rw [h]; exact Bool.false_ne_true)]
 refine eY (fun ab => Ao σ a f (bV L) (F ++ yN opt extra e) ab) (fun kk => ?_) ?_
 ·refine rl (b1 := decide (V.str e.name ∈ [V.str 219, V.str 220])) (b2 := decide (((e.kO opt extra).fdiv 16).fmod 2 = 0)) (fun _ q => q) (fun _ q => q) (jV (fun h => ?_) (fun h => ?_)) <;> rw [kF e] at h
  ·have h := (Bool.and_eq_true _ _ ▸ h : e.dE = true /\ decide (((e.kO opt extra).fdiv 16).fmod 2 = 0) = true)
   have e5 : yN opt extra e = [5] := by unfold yN; rw [if_pos ⟨h.1, of_decide_eq_true h.2⟩]
   rw [e5] at kk
   exact step I (by lia) (by exact rfl) fun ah I2 => kk _ I2
  ·have e5 : yN opt extra e = [] := by unfold yN; rw [if_neg fun g => by rw [g.1, decide_eq_true g.2] at h; cases h]
   rw [e5, List.append_nil] at kk
   exact kk _ I
 intro ab I1
 have p7 : (F ++ yN opt extra e).length < 999995 := by
  rw [List.length_append]
  have : (yN opt extra e).length <= 1 := by unfold yN; split <;> simp
  lia
 refine Gl (b1 := decide (ro = 1)) (b2 := decide (ro = 0) && (stay && e.aT)) (fun _ q => q) (fj (b1 := decide (ro = 0)) (b2 := stay && e.aT) (fun _ q => q) (fj (fun _ q => q) fun _ q => q)) (jV (fun h => ?_) (fun h => ?_))
 ·have h : ro = 1 \/ (ro = 0 /\ stay = true /\ e.aT = true) := by simpa using h
  rw [NB, if_pos h, List.append_nil] at q
  exact q .cont ab _ _ _ _ _ _ (.inr rfl) I1
 have h : ¬(ro = 1 \/ (ro = 0 /\ stay = true /\ e.aT = true)) := fun g => by
  have : (decide (ro = 1) || (decide (ro = 0) && (stay && e.aT))) = true := by simpa using g
  rw [this] at h; cases h
 rw [NB, if_neg h, <- List.append_assoc, <- List.append_assoc] at q
 refine eY (fun ah => Ao σ a f (bV L) (F ++ yN opt extra e ++ An e) ah) (fun kk => ?_) ?_
 ·refine jV (fun h => ?_) (fun h => ?_)
  ·have e4 : An e = [4] := by unfold An; rw [if_pos h]
   rw [e4] at kk
   exact step I1 (by lia) (by exact rfl) fun ah I2 => kk _ I2
  ·have e4 : An e = [] := by unfold An; rw [if_neg (by rw [h]; exact Bool.false_ne_true)]
   rw [e4, List.append_nil] at kk
   exact kk _ I1
 intro ah I2
 refine eY (fun aA => Ao σ a f (bV L) (F ++ yN opt extra e ++ An e ++ G7 opt extra e) aA) (fun kk => ?_) ?_
 ·refine jV (fun h => ?_) (fun h => ?_)
  ·have e3 : G7 opt extra e = [3] := by unfold G7; rw [if_pos fun g => by rw [decide_eq_true g] at h; cases h]
   rw [e3] at kk
   have LZ : (F ++ yN opt extra e ++ An e).length < 999999 := by
    rw [List.length_append]
    have : (An e).length <= 1 := by unfold An; split <;> simp
    lia
   exact step I2 LZ (by exact rfl) fun aA I3 => kk _ I3
  ·have e3 : G7 opt extra e = [] := by unfold G7; rw [if_neg fun g => by rw [decide_eq_false g] at h; cases h]
   rw [e3, List.append_nil] at kk
   exact kk _ I2
 intro aA I3
 exact q .next aA _ _ _ _ _ _ (.inl rfl) I3
end
end
variable {r : Nat}
section
section
variable {S : cW} {own : Bool}
theorem kS {α β : Type} (f : α -> List β) (l : List α) (x : α) : (l ++ [x]).flatMap f = l.flatMap f ++ f x := by
 rw [List.flatMap_append, List.flatMap_cons, List.flatMap_nil, List.append_nil]
theorem jZ : ∀ {as : List Nat} {Ls : List (List En)}, eJ σ as Ls -> (∀ (a : Nat) o, σ[a]? = some o -> 22 < a -> σ'[a]? = some o) -> eJ σ' as Ls
 | [], [], _, _ => trivial
 | _ :: _, _ :: _, h, k => ⟨⟨h.1.1, k _ _ h.1.2 h.1.1⟩, jZ h.2 k⟩
theorem o7 : ∀ {as : List Nat} {Ls : List (List En)}, eJ σ as Ls -> ∃ ps : List (Nat × List En), as = ps.map (·.1) /\ Ls = ps.map (·.2) /\ ∀ p ∈ ps, 22 < p.1 /\ σ[p.1]? = some (.dict .str (bV p.2))
 | [], [], _ => ⟨[], rfl, rfl, fun _ h => nomatch h⟩
 | a :: _, L :: _, h => (o7 h.2).elim fun ps g => ⟨(a, L) :: ps, congrArg (a :: ·) g.1, congrArg (L :: ·) g.2.1, fun p hp => (List.mem_cons.mp hp).elim (fun e => e ▸ h.1) (g.2.2 p)⟩
theorem A8 (hw : dc σ r Ls) (hl : ∀ L ∈ Ls, L.length <= 10) (I8 : Ls.length <= 10) (s9 : ∀ L ∈ Ls, (L.map (·.name)).Nodup) (q : ∀ σ' f, aV σ σ' -> 22 < f -> σ.length <= f -> σ'[f]? = some (.list ((dG stay own opt ro extra Ls).map .int)) -> Q (.ref f) σ') :
  cl (d + 1) 87 [.ref r, .bool stay, .bool own, .int opt, .int ro, .int extra] σ Q := by
 obtain ⟨hr, as, vL, Fh⟩ := hw
 have RA := (dX vL)
 obtain ⟨ps, rfl, rfl, nD⟩ := o7 Fh
 refine sg ?_
 cbv
 refine cT.cv (fun p : Nat × List En => .ref p.1) (.seq (.ref r)) ((ps.map (·.1)).map .ref) ps (fun i : E8 => [some (.ref r), some (.bool stay), some (.bool own), some (.int opt), some (.int ro), some (.int extra), some (.ref σ.length), i.a, i.b, i.c, i.d, i.e, i.f, i.g, i.h])
  (fun dn _ _ ab => aV σ ab /\ ab[σ.length]? = some (.list ((dG stay own opt ro extra (dn.map (·.2))).map .int))) ?_ ?_ ?_
 ·cbv
  refine eL (aH vL) ?_
  refine .cn (List.map_map ..) (E8.mk _ _ _ _ _ _ _ _) ?_
  exact ⟨.push, ay⟩
 ·intro dn p td i ab hp K
  have hm : p ∈ ps := hp ▸ List.mem_append.mpr (.inr (.head _))
  have Cq := (nD p hm).2
  have Cp := K.1.old _ _ Cq
  have Mm := (dX Cq)
  have hL := List.mem_map_of_mem (f := (·.2)) hm
  have UJ : (dn.map (·.2)).length <= 10 := by rw [<- hp, List.length_map, List.length_append] at I8; rw [List.length_map]; lia
  have hF := lJ (stay := stay) (own := own) (opt := opt) (ro := ro) (extra := extra) (dn.map (·.2)) fun x hx => hl x (by rw [<- hp, List.map_append]; exact List.mem_append.mpr (.inl hx))
  refine cT.cv (fun e : En => .str e.name) (.j6 p.1 (bV p.2)) ((bV p.2).map (·.1)) p.2 (fun i : E8 => [some (.ref r), some (.bool stay), some (.bool own), some (.int opt), some (.int ro), some (.int extra), some (.ref σ.length), some (.ref p.1), i.a, i.b, i.c, i.d, i.e, i.f, i.g])
   (fun MM _ _ => Ao σ p.1 σ.length (bV p.2) (dG stay own opt ro extra (dn.map (·.2)) ++ MM.flatMap (lU stay own opt ro extra))) ?_ ?_ ?_
  ·cbv
   refine iE Cp ?_
   refine .cn (jh _) (E8.mk _ _ _ _ _ _ _ none) ?_
   exact ⟨aE Cp, by rw [au (by lia), List.flatMap_nil, List.append_nil]; exact K.2, by rw [List.length_set]; exact K.1.len, fun b o h h1 _ => by rw [au h1.symm]; exact K.1.old _ _ h⟩
  ·intro L1 e L2 i ah uJ I
   have hb := sR (stay := stay) (own := own) (opt := opt) (ro := ro) (extra := extra) L1
   have p7 : L1.length <= 10 := by have := hl p.2 hL; rw [<- uJ, List.length_append] at this; lia
   refine DY I (by lia) (s9 p.2 hL) (uJ ▸ List.mem_append.mpr (.inr (.head _))) (by rw [List.length_append]; lia) fun fl aA z1 z2 z3 z4 z5 z6 J0 I3 => ?_
   have go := And.intro I3.jP (Ah.next (f := fun e : En => .str e.name) (S := .j6 p.1 (bV p.2)) (L := (bV p.2).map (·.1)) (E := fun i : E8 => [some (.ref r), some (.bool stay), some (.bool own), some (.int opt), some (.int ro), some (.int extra), some (.ref σ.length), some (.ref p.1), i.a, i.b, i.c, i.d, i.e, i.f, i.g])
    (J := fun MM _ _ => Ao σ p.1 σ.length (bV p.2) (dG stay own opt ro extra (dn.map (·.2)) ++ MM.flatMap (lU stay own opt ro extra))) uJ ⟨some (.str e.name), z1, z2, z3, z4, z5, z6, none⟩ (by rw [kS, <- List.append_assoc]; exact I3))
   rcases J0 with rfl | rfl
   ·exact go
   ·exact go
  ·intro i ah I
   refine ⟨I.jP, ?_⟩
   have K2 : aV σ (ah.set p.1 (.dict .str (bV p.2))) := ⟨by rw [List.length_set]; exact I.len, fun b o h => by
    by_cases e : b = p.1
    ·rw [e] at h ⊢; rw [Cq] at h; rw [<- h]; exact aE I.jP
    ·have := (dX h)
     rw [au fun g => e g.symm]; exact I.old b o h e (by lia)⟩
   refine ⟨ba (K2.old _ _ vL), .next hp (E8.mk _ _ _ _ _ _ _ _) ?_⟩
   refine ⟨K2, ?_⟩
   rw [au (by lia), List.map_append]
   unfold dG at I ⊢
   rw [List.map_cons, List.map_nil, kS]
   exact I.yC
 ·intro i ab K
  cbv
  exact q ab σ.length K.1 (by lia) (Nat.le_refl _) K.2
noncomputable def bl (l : List Int) : List Int := [3, 4, 5, 15].filter fun c => decide (c ∈ l)
noncomputable def lL (dW : Int) (l : List Int) : List V := l.map fun c => .ae [.int c, .int dW]
theorem ua {dW c : Int} {l : List Int} : V.ae [.int c, .int dW] ∈ lL dW l <-> c ∈ l := by
 unfold lL
 rw [List.mem_map]
 constructor
 ·rintro ⟨x, hx, e⟩
  cases V.int.inj (List.cons.inj (V.ae.inj e)).1
  exact hx
 ·exact fun h => ⟨c, h, rfl⟩
theorem mc : ∀ (l : List Int), dq (l.map fun _ => V.bool true) = some (l.map fun _ => true)
 | [] => rfl
 | _ :: l => by
  show Option.map _ (dq (l.map fun _ => V.bool true)) = _
  rw [mc l]; rfl
theorem vu : ∀ (l : List Int), (l.map fun _ => true).all id = true
 | [] => rfl
 | _ :: l => vu l
theorem CV {dW : Int} {l : List Int} (hr : σ[r]? = some (.list (lL dW l))) (hl : l.length <= 1000) (hc : ∀ c ∈ l, c ∈ ([3, 4, 5, 15] : List Int)) (q : ∀ σ' f, aV σ σ' -> σ.length <= f -> σ'[f]? = some (.list ((bl l).map .int)) -> Q (.ref f) σ') : cl (d + 1) 88 [.ref r, .int dW] σ Q := by
 refine si ?_
 refine c6.cv .int (.seq (.ae [.int 3, .int 4, .int 5, .int 15])) [.int 3, .int 4, .int 5, .int 15] [3, 4, 5, 15] (fun dn => (dn.filter fun c => decide (c ∈ l)).map .int) (fun _ _ ab => σ = ab) ?_ ?_ ?_
 ·cbv
  exact .cn rfl rfl rfl
 ·rintro dn c td _ Fo rfl
  cbv
  refine dD (.inl hr rfl (all_map (by exact fun _ => rfl) l)) ?_
  cbv
  refine aj (fun e => ?_) (fun e => ?_)
  ·cbv
   exact ⟨rfl, .next Fo (uS (decide_eq_true (ua.mp e))) rfl⟩
  ·exact ⟨rfl, .skip Fo (yD fun h => e (ua.mpr (of_decide_eq_true h))) rfl⟩
 ·rintro _ rfl
  have J0 : (bl l).length <= 4 := List.length_filter_le _ _
  refine ⟨by rw [List.length_map]; show (bl l).length <= _; lia, ?_⟩
  have J1 := ay (σ := σ) (p := .list ((bl l).map .int))
  refine c6.cv (fun c : Int => .ae [.int c, .int dW]) (.seq (.ref r)) (lL dW l) l (fun dn => dn.map fun _ => .bool true) (fun _ _ ab => σ ++ [.list ((bl l).map .int)] = ab) ?_ ?_ ?_
  ·cbv
   exact eL (aH hr) (.cn rfl rfl rfl)
  ·rintro dn c td _ Fo rfl
   have Ux : V.int c ∈ (bl l).map V.int := gp.mpr (List.mem_filter.mpr ⟨hc c (qy Fo), decide_eq_true (qy Fo)⟩)
   cbv
   refine aj (fun _ => ?_) (fun e => absurd rfl e)
   cbv
   refine dD (.inl J1 rfl (all_map (by exact fun _ => rfl) _)) ?_
   rw [decide_eq_true Ux]
   exact ⟨ba (aH hr), .next Fo (de ..) rfl⟩
  ·rintro _ rfl
   refine ⟨by rw [List.length_map]; lia, ?_⟩
   refine Di (bs := l.map fun _ => true) ay (mc l) ?_
   rw [vu]
   cbv
   exact q _ σ.length (aV.push.trans .push) (Nat.le_refl _) (aH J1)
end
end
section
noncomputable def BM : List En := [⟨217, 1, false, false⟩, ⟨218, 2, true, false⟩]
def ip (T : cN) (P : cN -> ag -> Prop) : Prop := ∀ (k : Nat) (T' : cN) (σ' : ag), bb k T T' -> TR T' σ' -> P T' σ'
def mL (T : cN) (s : Nat) (nul : Bool) : Prop := ip T fun _ σ' => ∀ (d : Nat) (Q : PQ), (∀ cy, aV σ' cy -> Q (.bool nul) cy) -> cl (d + 6) 31 [.ref 4, .int s, .int 0] σ' Q
def Gh (T : cN) (s : Nat) : Prop := ip T fun _ σ' => ∀ (d : Nat) (Q : PQ), (∀ cy, aV σ' cy -> Q (.bool true) cy) -> cl (d + 7) 30 [.ref 4, .int s] σ' Q
structure pv (Ls : List (List En)) : Prop where
 len : Ls.length <= 10
 cv : ∀ L ∈ Ls, L.length <= 10 /\ (L.map (·.name)).Nodup /\ ∀ e ∈ L, e.mask ∈ fU
structure yS (Ls : List (List En)) : Prop where
 DD : ∃ L ∈ Ls, ∃ e ∈ L, e.dE = true /\ e.free = false /\ e.mask ∈ ([1, 3, 7] : List Int)
 HN : ∃ L ∈ Ls, ∃ e ∈ L, e.dE = false /\ e.aT = true
 Ra : ∃ L ∈ Ls, ∃ e ∈ L, e.dE = false /\ e.aT = false
structure cZ (b0 : Nat) (T : cN) (m : Int) (σ : ag) (s : Nat) (a : Int) (ra : List V) (sh : Sh) (Ls : List (List En)) (nul : Bool) (a7 up : Int) : Prop where
 hs : T.ak[s]? = some (.ae (.int a :: ra))
 pG : 15 < s
 sort : dU T σ s sh
 MQ : ∀ (σ' : ag), (∀ (b : Nat) o, b0 <= b -> σ[b]? = some o -> σ'[b]? = some o) -> dU T σ' s sh
 cls : (sh = none /\ (a = 10 \/ a = 15 \/ a = 7) /\ a7 ≠ 4 /\ a7 ≠ 5 /\ a7 < 9) \/ (sh.isSome = true /\ (a = 8 \/ a = 9) /\ (a7 = 4 \/ a7 = 5)) \/ (sh = none /\ a = 17 /\ a7 = 9)
 emp : a ≠ 8 \/ ∃ es c0 c1, V.ae (.int a :: ra) = cf es c0 c1 /\ (es ≠ [] \/ c0.isSome = true \/ c1.isSome = true)
 sF : pv Ls
 mY : sh = none -> yS Ls
 s7 : ∀ es c0 c1, sh = some (es, c0, c1) -> ∃ L, Ls = [L] /\ ff L /\ Match L es c0 c1
 nul : mL T s nul
 Mk : a = 7 -> Gh T s
 Ee : a = 17 -> ∃ (pa tv : V) (over vv : Nat), ra = [pa, .int over, .int (-1), tv, .int 0, .int 0] /\ T.ak[over]? = some (.ae [.int 14, .int vv]) /\ 15 < over /\ ip T fun T' _ => m ≠ 3 -> bH T' 14 m vv s false 4 3
 up : up = -1 \/ ∃ u : Nat, up = u /\ a7 = 3 /\ u < s /\ 15 < u
 a7 : 0 <= a7 /\ a7 < 10
section
theorem gK : ff BM := ⟨by decide, by decide, fun e he => by
 rcases List.mem_cons.mp he with rfl | he
 ·exact .inl ⟨.inl rfl, by decide⟩
 ·rw [List.mem_singleton.mp he]; exact .inl ⟨.inr rfl, by decide⟩, by decide⟩
theorem ff.nz (O : ff L) : ∀ e ∈ L, e.name ≠ 223 := fun e he => by
 rcases O.ok e he with ⟨h | h, _⟩ | ⟨⟨h, _⟩ | ⟨h, _⟩, _⟩ <;> lia
theorem Aj.mask {e : En} (h : Aj e) : e.mask ∈ fU := by
 rcases h with ⟨_, h⟩ | ⟨⟨_, h⟩ | ⟨_, h⟩, _⟩
 ·exact h
 ·rw [h]; decide
 ·rw [h]; decide
set_option tactic.hygienic true in
theorem fS (O : ff L) : pv (bZ L) /\ yS (bZ L) := by
 have hz := ja (e := iq) O.nd O.nz
 have hl := O.len
 have hm : ∀ e ∈ L ++ [iq], e.mask ∈ fU := fun e he => by
  rcases List.mem_append.mp he with h | h
  ·exact (O.ok e h).mask
  ·rw [List.mem_singleton.mp h]; decide
 have hs : (cz (L ++ [iq])).map (·.name) = (L ++ [iq]).map (·.name) := by unfold cz; rw [List.map_map]; rfl
 have RJ : (L ++ [iq]).length <= 10 := by rw [List.length_append]; simp only [List.length_cons, List.length_nil]; lia
 have hw : (fu L).length <= 10 /\ ((fu L).map (·.name)).Nodup /\ ∀ e ∈ fu L, e.mask ∈ fU := by
  unfold fu
  split
  ·exact ⟨by lia, O.nd, fun e h => (O.ok e h).mask⟩
  ·rename_i ha
   refine ⟨by rw [List.length_append]; simp only [List.length_cons, List.length_nil]; lia, ja O.nd fun e he g => ha (List.any_eq_true.mpr ⟨e, he, by simpa using g⟩), fun e he => ?_⟩
   rcases List.mem_append.mp he with h | h
   ·exact (O.ok e h).mask
   ·rw [List.mem_singleton.mp h]; decide
 refine ⟨⟨Nat.le_of_ble_eq_true rfl, fun M hM => ?_⟩, ⟨fu L, by simp [bZ], ?_⟩, ⟨cz (L ++ [iq]), by simp [bZ], { iq with aT := true }, List.mem_map.mpr ⟨iq, List.mem_append.mpr (.inr (.head _)), rfl⟩, rfl, rfl⟩, ⟨L ++ [iq], by simp [bZ], iq, List.mem_append.mpr (.inr (.head _)), rfl, rfl⟩⟩
 ·rcases List.mem_cons.mp hM with rfl | hM
  ·exact ⟨by lia, O.nd, fun e h => (O.ok e h).mask⟩
  rcases List.mem_cons.mp hM with rfl | hM
  ·exact ⟨RJ, hz, hm⟩
  rcases List.mem_cons.mp hM with rfl | hM
  ·refine ⟨by unfold cz; rw [List.length_map]; exact RJ, by rw [hs]; exact hz, fun e he => ?_⟩
   obtain ⟨x, hx, rfl⟩ := List.mem_map.mp he
   exact hm x hx
  ·rw [List.mem_singleton.mp hM]; exact hw
 ·unfold fu
  split
  ·rename_i ha
   obtain ⟨e, he, hn⟩ := List.any_eq_true.mp ha
   have hn : e.name = 220 := by simpa using hn
   refine ⟨e, he, by unfold En.dE; rw [hn]; rfl, ?_⟩
   rcases O.ok e he with ⟨h | h, _⟩ | ⟨⟨h, _⟩ | ⟨_, h⟩, h2, _⟩
   ·lia
   ·lia
   ·lia
   ·exact ⟨h2, by rw [h]; decide⟩
  ·exact ⟨⟨220, 7, false, false⟩, List.mem_append.mpr (.inr (.head _)), rfl, rfl, by decide⟩
structure Dr (xs : List V) (T : cN) (σ : ag) (cI : Nat) (T' : cN) (σ' : ag) (n r1 r2 t : Nat) (L : List En) (es : List j7) (c0 c1 : Option Nat) : Prop where
 ss : SS xs 30 T σ cI T' σ'
 aO : σ'[n]? = some (.dict .str (bV L))
 gX : 22 < n
 obj : ff L
 row : T'.ak[t]? = some (cf es c0 c1)
 yh : Match L es c0 c1
 some : dc σ' r1 (bZ L)
 most : dc σ' r2 (bZ BM)
theorem vV (D : DS xs pos T σ) (jn : 22 < σ.length) (hz : T.size + 100 < 999990) (hx : ∀ v ∈ xs, ∃ z : Int, v = .int z)
  (k : ∀ z cI T' σ' n r1 r2 t L es c0 c1, 0 <= z -> z < 10 -> Dr xs T σ cI T' σ' n r1 r2 t L es c0 c1 -> WX (cl (d + 5)) a0.body.tl.tl.tl.tl.tl [some (.ref 3), some (.ref 4), some (.int z), some (.ref n), some (.int t), some (.ref r1), some (.ref r2), none, none, none, none, none, none, none, none, none, none, none, none, none] σ' (a6 Q)) : cl (d + 6) 86 [.ref 3, .ref 4] σ Q := by
 refine pP ?_
 cbv
 refine dH D hx (by decide) (by decide) fun z ab E5 zD X1 => ?_
 cbv
 have zJ : 22 < ab.length := Nat.lt_of_lt_of_le jn X1.fr.len
 refine zm (d := d + 3) X1.ds zJ hx fun ah H5 L X2 ht hO => ?_
 cbv
 refine HX X2.ds.tr hz ht (by lia) hO.nd (by have := hO.len; lia) fun eP aA t es c0 c1 ts hr M => ?_
 cbv
 have X3 := X1.trans (X2.trans (ts.ss X2.ds))
 have Rx := ts.fr.old _ _ ht (.inr (by lia))
 have h3 : 22 < aA.length := Nat.lt_of_lt_of_le jn X3.fr.len
 refine qj (d := d + 4) zJ h3 Rx hO.nd hO.nz (by have := hO.len; lia) fun bc r1 K4 w4 => ?_
 cbv
 have h4 : 22 < bc.length := Nat.lt_of_lt_of_le h3 K4.len
 refine qj (n := bc.length) (d := d + 4) (L := BM) h4 (by rw [List.length_append]; lia) ay gK.nd gK.nz (by decide) fun bg r2 K5 w5 => ?_
 have K : aV aA bg := K4.trans (aV.push.trans K5)
 have hl := hO.len
 have Sw : dc bg r1 (bZ L) := by
  obtain ⟨g1, as, g2, g3⟩ := w4
  exact ⟨g1, as, (aV.push.trans K5).old _ _ g2, jZ g3 fun a o h _ => (aV.push.trans K5).old a o h⟩
 exact k z H5 eP bg ab.length r1 r2 t L es c0 c1 E5 zD ⟨(X3.keep K).up (by lia), K.old _ _ Rx, zJ, hO, hr, M, Sw, w5⟩
end
end
variable {r1 r2 : Nat}
section
section
theorem uR : (aQ.all fun r => match r with | .ae (.int k :: l) => (k == 1 || k == 2 || k == 6) || (k == 8 && V.beq (.ae l) (.ae [.ae [], .ae [], .ae [], .ae [], .ae [], .int 0])) | _ => false) = true := rfl
theorem TR.fH (R : TR T σ) : 16 <= T.ak.length := R.first.length_le
theorem TR.new (R : TR T σ) {k : Int} {l : List V} (h : T.ak[t]? = some (.ae (.int k :: l))) (hk : k ≠ 1 /\ k ≠ 2 /\ k ≠ 6) (h8 : k = 8 -> V.ae l ≠ .ae [.ae [], .ae [], .ae [], .ae [], .ae [], .int 0]) : 15 < t := by
 refine Nat.lt_of_not_le fun zG => ?_
 have fP : t < aQ.length := Nat.lt_succ_of_le zG
 have h1 := R.bN (List.getElem?_eq_getElem fP)
 rw [h] at h1
 have h2 := List.all_eq_true.mp uR aQ[t] (List.getElem_mem fP)
 rw [<- Option.some.inj h1] at h2
 have h2 : ((k == 1 || k == 2 || k == 6) || (k == 8 && V.beq (.ae l) (.ae [.ae [], .ae [], .ae [], .ae [], .ae [], .int 0]))) = true := h2
 rw [beq_false_of_ne hk.1, beq_false_of_ne hk.2.1, beq_false_of_ne hk.2.2] at h2
 have h2 := (Bool.and_eq_true _ _ ▸ h2 : (k == 8) = true /\ V.beq (.ae l) (.ae [.ae [], .ae [], .ae [], .ae [], .ae [], .int 0]) = true)
 exact h8 (eq_of_beq h2.1) ((V.eI _ _).mp h2.2)
theorem Match.mY (M : Match L es c0 c1) (O : ff L) : es ≠ [] \/ c0.isSome = true \/ c1.isSome = true := by
 obtain ⟨e, he⟩ := List.exists_mem_of_ne_nil L O.ne
 rcases O.ok e he with ⟨h, _⟩ | ⟨⟨h, _⟩ | ⟨h, _⟩, _⟩
 ·refine .inl fun g => ?_
  have h1 := M.uY
  rw [g, List.map_nil] at h1
  have h2 : e ∈ L.filter fun e => !e.dE := List.mem_filter.mpr ⟨he, by unfold En.dE; rcases h with h | h <;> rw [h] <;> rfl⟩
  rw [List.map_eq_nil_iff.mp h1.symm] at h2
  cases h2
 ·exact .inr (.inl (by rw [M.D9]; exact List.any_eq_true.mpr ⟨e, he, by simpa using h⟩))
 ·exact .inr (.inr (by rw [M.hash]; exact List.any_eq_true.mpr ⟨e, he, by simpa using h⟩))
theorem eu (R : TR T σ) (h : T.ak[t]? = some (cf es c0 c1)) (hf : es ≠ [] \/ c0.isSome = true \/ c1.isSome = true) : 15 < t :=
 R.new h (by decide) fun _ e => by
  have e := V.ae.inj e
  rcases hf with h | h | h
  ·exact h (List.map_eq_nil_iff.mp (V.ae.inj (List.cons.inj e).1))
  ·have := (List.cons.inj (List.cons.inj (List.cons.inj (List.cons.inj e).2).2).2).1
   cases c0 with
   | none => cases h
   | some => cases this
  ·have := (List.cons.inj (List.cons.inj (List.cons.inj (List.cons.inj (List.cons.inj e).2).2).2).2).1
   cases c1 with
   | none => cases h
   | some => cases this
theorem qt (h : T.ak[t]? = some (cf es c0 c1)) (xj : 15 < t) : cS T t 8 :=
 ⟨by simp only [List.mem_cons, List.not_mem_nil, or_false]; lia, by decide, by decide, by decide, _, h, fun _ => ⟨0, rfl, by decide⟩⟩
theorem dc.keep (w : dc σ r Ls) (h : ∀ (a : Nat) o, σ[a]? = some o -> 22 < a -> σ'[a]? = some o) : dc σ' r Ls :=
 ⟨w.1, w.2.elim fun as p => ⟨as, h _ _ p.1 w.1, jZ p.2 h⟩⟩
theorem HF.gX (x : HF σ σ') : ∀ (a : Nat) o, σ[a]? = some o -> 22 < a -> σ'[a]? = some o := fun a o h g => x.old a o h (by lia)
theorem cZ.open {s : Nat} {a : Int} {ra : List V} {nul : Bool} {a7 up : Int} (hs : T.ak[s]? = some (.ae (.int a :: ra))) (xj : 15 < s) (ha : a = 10 \/ a = 15 \/ a = 7) (hh : a7 ≠ 4 /\ a7 ≠ 5 /\ 0 <= a7 /\ a7 < 9) (O : ff L) (hn : mL T s nul) (hp : a = 7 -> Gh T s) (hu : up = -1 \/ ∃ u : Nat, up = u /\ a7 = 3 /\ u < s /\ 15 < u) :
  cZ B T m σ s a ra none (bZ L) nul a7 up :=
 have hk : a = 7 \/ a = 10 \/ a = 15 \/ a = 17 := ha.elim (fun h => .inr (.inl h)) fun h => h.elim (fun h => .inr (.inr (.inl h))) .inl
 ⟨hs, xj, ⟨a, ra, hs, hk⟩, fun _ _ => ⟨a, ra, hs, hk⟩, .inl ⟨rfl, ha, hh.1, hh.2.1, hh.2.2.2⟩, .inl (fun h => by rw [h] at ha; exact absurd ha (by decide)), (fS O).1, fun _ => (fS O).2, fun _ _ _ h => (nomatch h), hn, hp, fun h => by rw [h] at ha; exact absurd ha (by decide), hu, ⟨hh.2.2.1, Int.lt_trans hh.2.2.2 (by decide)⟩⟩
theorem tQ {s i b : Nat} (xj : 15 < s) (hs : T.ak[s]? = some (.ae [.int 10, .int i])) (hb : T.ao[i]? = some (.int b)) (Qq : 15 < b) (hr : T.ak[b]? = some (cf es c0 c1)) : mL T s false := fun k T' σ' X R d Q q =>
 ez (d := d + 3) R (by lia) (X.row hs) (X.bound hb) (by decide) (fun Q' q' => i8 (d := d + 3) R (by lia) (X.row hr) (.inl rfl) q') (q σ' .refl)
noncomputable abbrev nf (xs : List V) (T : cN) (m : Int) (σ : ag) (Q : PQ) : Prop := ∀ cI T' σ' s r a ra sh Ls nul a7 up, SS xs 60 T σ cI T' σ' -> dc σ' r Ls -> cZ σ.length T' m σ' s a ra sh Ls nul a7 up -> Q (.ae [.int s, .ref r, .bool nul, .int a7, .int up]) σ'
noncomputable abbrev gn (z : Int) (n t r1 r2 : Nat) : Env := [some (.ref 3), some (.ref 4), some (.int z), some (.ref n), some (.int t), some (.ref r1), some (.ref r2), none, none, none, none, none, none, none, none, none, none, none, none, none]
theorem Ku (hz : T.size + 100 < 999990) (P : Dr xs T σ cI T' σ' n r1 r2 t L es c0 c1) (q : nf xs T m σ Q) : WX (cl (d + 5)) a0.body.tl.tl.tl.tl.tl (gn 1 n t r1 r2) σ' (a6 Q) := by
 have R := P.ss.ds.tr
 have jm := P.ss.ext.size
 have pE := eu R P.row (P.yh.mY P.obj)
 cbv
 refine aP (b := (t : Nat)) (d := d + 3) R (by lia) (by have := R.lt P.row; lia) fun aD ah s ts hs hr hb _ => ?_
 cbv
 have GV := R.fH
 have oH : aD.ao[T'.ao.length]? = some (.int (t : Nat)) := by rw [hb, List.getElem?_append_right (Nat.le_refl _), Nat.sub_self]; rfl
 exact q _ aD ah s r1 _ _ _ _ false 1 (-1) ((P.ss.trans (ts.ss P.ss.ds)).up (by lia)) (P.some.keep ts.fr.hf.gX) (cZ.open hr (by lia) (.inl rfl) (by decide) P.obj (tQ (by lia) hr oH pE (ts.ext.row P.row)) (fun h => absurd h (by decide)) (.inl rfl))
theorem Ks (hz : T.size + 100 < 999990) (P : Dr xs T σ cI T' σ' n r1 r2 t L es c0 c1) (q : nf xs T m σ Q) : WX (cl (d + 5)) a0.body.tl.tl.tl.tl.tl (gn 3 n t r1 r2) σ' (a6 Q) := by
 have R := P.ss.ds.tr
 have jm := P.ss.ext.size
 have pE := eu R P.row (P.yh.mY P.obj)
 have GV := R.fH
 cbv
 refine aP (b := (t : Nat)) (d := d + 3) R (by lia) (by have := R.lt P.row; lia) fun aD ah u ts hu Pf hb _ => ?_
 have oH : aD.ao[T'.ao.length]? = some (.int (t : Nat)) := by rw [hb, List.getElem?_append_right (Nat.le_refl _), Nat.sub_self]; rfl
 have IZ := ts.ext.size
 cbv
 refine aP (b := (u : Nat)) (d := d + 3) ts.tr (by lia) (by have := ts.tr.lt Pf; lia) fun eP aA s gG hs hr UE _ => ?_
 have PK : eP.ao[aD.ao.length]? = some (.int (u : Nat)) := by rw [UE, List.getElem?_append_right (Nat.le_refl _), Nat.sub_self]; rfl
 cbv
 have Tx := ts.tr.lt Pf
 have hn : mL eP s false := fun k T' σ' X R d Q q =>
  ez (d := d + 3) R (by lia) (X.row hr) (X.bound PK) (by decide) (fun Q' q' => ez (d := d + 2) R (by lia) ((gG.ext.trans X).row Pf) ((gG.ext.trans X).bound oH) (by decide) (fun QH H0 => i8 (d := d + 2) R (by lia) ((ts.ext.trans (gG.ext.trans X)).row P.row) (.inl rfl) H0) q') (q σ' .refl)
 exact q _ eP aA s r1 _ _ _ _ false 3 u ((P.ss.trans ((ts.trans gG).ss P.ss.ds)).up (by lia)) (P.some.keep (ts.trans gG).fr.hf.gX) (cZ.open hr (by lia) (.inl rfl) (by decide) P.obj hn (fun h => absurd h (by decide)) (.inr ⟨u, rfl, rfl, by lia, by lia⟩))
theorem Kv (hz : T.size + 100 < 999990) (P : Dr xs T σ cI T' σ' n r1 r2 t L es c0 c1) (q : nf xs T m σ Q) : WX (cl (d + 5)) a0.body.tl.tl.tl.tl.tl (gn 0 n t r1 r2) σ' (a6 Q) := by
 have R := P.ss.ds.tr
 have jm := P.ss.ext.size
 have GV := R.fH
 cbv
 refine aP (b := -1) (d := d + 3) R (by lia) (by lia) fun aD ah s ts hs hr hb _ => ?_
 have oH : aD.ao[T'.ao.length]? = some (.int (-1)) := by rw [hb, List.getElem?_append_right (Nat.le_refl _), Nat.sub_self]; rfl
 cbv
 exact q _ aD ah s r2 _ _ _ _ true 0 (-1) ((P.ss.trans (ts.ss P.ss.ds)).up (by lia)) (P.most.keep ts.fr.hf.gX) (cZ.open hr (by lia) (.inl rfl) (by decide) gK (fun k T' σ' X R d Q q => n3 (d := d + 3) R (by lia) (X.row hr) (X.bound oH) (q σ' .refl)) (fun h => absurd h (by decide)) (.inl rfl))
end
end
section
section
theorem Un.lt (R : TR T σ) {u : Nat} {fl : List Nat} (h : Un T u (sd fl)) (hl : ∀ p ∈ fl, p < T.ak.length) : u < T.ak.length := by
 have GV := R.fH
 rcases h with ⟨_, rfl⟩ | h | ⟨_, h⟩
 ·lia
 ·obtain ⟨p, hp, e⟩ := c9.mp (show (u : Int) ∈ sd fl by rw [h]; exact .head _)
  rw [<- Int.ofNat.inj e]; exact hl p hp
 ·exact R.lt h
theorem n0 (R : TR T σ) {y : Nat} (hy : y = 4 \/ y = 5) : cS T y 1 := by
 rcases hy with rfl | rfl
 ·exact ⟨by decide, by decide, by decide, by decide, _, R.bN (t := 4) rfl, fun h => absurd h (by decide)⟩
 ·exact ⟨by decide, by decide, by decide, by decide, _, R.bN (t := 5) rfl, fun h => absurd h (by decide)⟩
theorem nI {y : Nat} {bO : V} (R : TR T σ) (hz : T.size < 1000000) (iM : lF bO [.int t, .int y] σ) (hr : T.ak[t]? = some (cf es c0 c1)) (xj : 15 < t) (hy : y = 4 \/ y = 5)
  (q : ∀ T' σ' (u : Nat), TS 1 T σ T' σ' -> T'.ao = T.ao -> Un T' u (sd [t, y]) -> u < T'.ak.length -> Q (.int u) σ') : cl (d + 3) 14 [.ref 4, bO] σ Q := by
 have pt := qt hr xj
 have py := n0 R hy
 refine gF R hz iM (fl := [t, y]) (.cons (qs := [t]) pt.gH (.cons (qs := [y]) py.gH .nil)) (Nat.le_of_ble_eq_true rfl) (fun p hp => ?_) fun T' σ' u ts hb _ hu => q T' σ' u ts hb hu (hu.lt ts.tr fun p hp => ?_)
 ·rcases List.mem_cons.mp hp with rfl | hp
  ·exact ⟨8, pt, fun p' _ e => by have e : (p' : Int) = -1 := e; lia⟩
  ·rw [List.mem_singleton.mp hp]
   exact ⟨1, py, fun p' _ e => by have e : (p' : Int) = -1 := e; lia⟩
 ·have GV := ts.tr.fH
  rcases List.mem_cons.mp hp with rfl | hp
  ·exact ts.tr.lt (ts.ext.row hr)
  ·rw [List.mem_singleton.mp hp]; lia
theorem BD {y u : Nat} (R : TR T σ) (hu : Un T u (sd [t, y])) (hr : T.ak[t]? = some (cf es c0 c1)) (xj : 15 < t) (hy : y = 4 \/ y = 5) {k : Nat} (X : bb k T T') (R' : TR T' σ') {dp : Int} (q : Q (.bool true) σ') : cl (d + 2) 31 [.ref 4, .int u, .int dp] σ' Q := by
 have pt := qt hr xj
 have py := n0 R hy
 have hp : iZ T u ((sd [t, y]).map .int) := hu.gH R fun z hz => by
  obtain ⟨p, hp, rfl⟩ := c9.mp hz
  rcases List.mem_cons.mp hp with rfl | hp
  ·exact ⟨p, 8, rfl, pt⟩
  ·rw [List.mem_singleton.mp hp]; exact ⟨y, 1, rfl, py⟩
 refine zo (z := (y : Nat)) R' (hp.ext X) (c9.mpr ⟨y, .tail _ (.head _), rfl⟩) (by lia) (fun x hx => ?_) q
 obtain ⟨p, hp, rfl⟩ := c9.mp hx
 rcases List.mem_cons.mp hp with rfl | hp
 ·exact .inr ⟨p, _, rfl, by lia, X.row hr⟩
 ·rw [List.mem_singleton.mp hp]; exact .inl rfl
theorem Kt (hz : T.size + 100 < 999990) (hx : ∀ v ∈ xs, ∃ z : Int, v = .int z) (P : Dr xs T σ cI T' σ' n r1 r2 t L es c0 c1) (q : nf xs T m σ Q) : WX (cl (d + 5)) a0.body.tl.tl.tl.tl.tl (gn 2 n t r1 r2) σ' (a6 Q) := by
 have R := P.ss.ds.tr
 have jm := P.ss.ext.size
 have pE := eu R P.row (P.yh.mY P.obj)
 have GV := R.fH
 cbv
 refine dH (d := d + 4) P.ss.ds hx (by decide) (by decide) fun z ah E5 zD X2 => ?_
 obtain ⟨y, hy, Tr⟩ : ∃ y : Nat, (y = 4 \/ y = 5) /\ 4 + z = (y : Int) := ⟨(4 + z).toNat, by lia, by lia⟩
 cbv
 refine nI (y := y) (d := d + 2) X2.ds.tr.push (by lia) (by rw [<- Tr]; exact ba ay) P.row pE hy fun eP aA u ts UA hu Pb => ?_
 have E7 := ts.ext.size
 cbv
 refine aP (b := (u : Nat)) (d := d + 3) ts.tr (by lia) (by lia) fun dj bc s cH hs hr hb _ => ?_
 have oH : dj.ao[eP.ao.length]? = some (.int (u : Nat)) := by rw [hb, List.getElem?_append_right (Nat.le_refl _), Nat.sub_self]; rfl
 cbv
 have X3 := (X2.keep (.push (o := .list [.int t, .int (4 + z)]))).trans ((ts.trans cH).ss (X2.ds.keep .push))
 have Mv := ts.tr.fH
 have hn : mL dj s true := fun k T' σ' X R d Q q =>
  ez (d := d + 3) R (by lia) (X.row hr) (X.bound oH) (by decide) (fun Q' q' => BD (d := d + 3) ts.tr hu (ts.ext.row P.row) pE hy (cH.ext.trans X) R q') (q σ' .refl)
 exact q _ dj bc s r1 _ _ _ _ true 2 (-1) ((P.ss.trans X3).up (by lia)) (P.some.keep X3.fr.gX) (cZ.open hr (by lia) (.inl rfl) (by decide) P.obj hn (fun h => absurd h (by decide)) (.inl rfl))
theorem tL (O : ff L) : pv [L] := ⟨Nat.le_of_ble_eq_true rfl, fun M hM => by
 rw [List.mem_singleton.mp hM]
 exact ⟨by have := O.len; lia, O.nd, fun e h => (O.ok e h).mask⟩⟩
theorem Kr (P : Dr xs T σ cI T' σ' n r1 r2 t L es c0 c1) (q : nf xs T m σ Q) : WX (cl (d + 5)) a0.body.tl.tl.tl.tl.tl (gn 4 n t r1 r2) σ' (a6 Q) := by
 have R := P.ss.ds.tr
 have hf := P.yh.mY P.obj
 have pE := eu R P.row hf
 have DG := (dX P.aO)
 have hb := P.gX
 cbv
 have Nu : dU T' (σ' ++ [.list [.ref n]]) t (some (es, c0, c1)) := ⟨t, 8, _, P.row, .inl rfl, P.row, .inl rfl⟩
 exact q _ T' _ t σ'.length 8 _ (some (es, c0, c1)) [L] false 4 (-1) ((P.ss.keep .push).up (by decide)) ⟨by lia, [n], ay, ⟨hb, aH P.aO⟩, trivial⟩
  ⟨P.row, pE, Nu, fun _ _ => ⟨t, 8, _, P.row, .inl rfl, P.row, .inl rfl⟩, .inr (.inl ⟨rfl, .inl rfl, .inl rfl⟩), .inr ⟨es, c0, c1, rfl, hf⟩, tL P.obj, (fun h => nomatch h), fun es' c0' c1' e => by cases e; exact ⟨L, rfl, P.obj, P.yh⟩,
   fun k T' σ' X R d Q q => i8 (d := d + 4) R (by lia) (X.row P.row) (.inl rfl) (q σ' .refl), fun h => absurd h (by decide), fun h => absurd h (by decide), .inl rfl, by decide⟩
theorem Kq (hz : T.size + 100 < 999990) (P : Dr xs T σ cI T' σ' n r1 r2 t L es c0 c1) (q : nf xs T m σ Q) : WX (cl (d + 5)) a0.body.tl.tl.tl.tl.tl (gn 5 n t r1 r2) σ' (a6 Q) := by
 have R := P.ss.ds.tr
 have jm := P.ss.ext.size
 have hf := P.yh.mY P.obj
 have pE := eu R P.row hf
 have DG := (dX P.aO)
 have Mj := P.gX
 cbv
 refine tZ (d := d + 3) R (by lia) fun aD ah a b ts hb hd ho => ?_
 have cQ := ts.fr.len
 cbv
 refine jt (show Hi _ _ _ _ (ah.set σ'.length (.aF 1 (fL T'.aK.length (.int 2) (.str 227) (.int t) a b))) from sa ho (Nat.le_of_ble_eq_true rfl)) ?_
 have RH : (ah.set σ'.length (.aF 1 (fL T'.aK.length (.int 2) (.str 227) (.int t) a b)))[σ'.length]? = some (.aF 1 (fL T'.aK.length (.int 2) (.str 227) (.int t) a b)) := aE ho
 have R3 : TR aD (ah.set σ'.length (.aF 1 (fL T'.aK.length (.int 2) (.str 227) (.int t) a b))) := ts.tr.set (by lia)
 have H3 : HF σ' (ah.set σ'.length (.aF 1 (fL T'.aK.length (.int 2) (.str 227) (.int t) a b))) := ⟨by rw [List.length_set]; exact cQ, fun x o h g => by
  have := (dX h)
  rw [au (by lia)]; exact ts.fr.old _ _ h (.inr g)⟩
 have D3 : DS xs cI aD (ah.set σ'.length (.aF 1 (fL T'.aK.length (.int 2) (.str 227) (.int t) a b))) := ⟨R3, by rw [au (by lia)]; exact (P.ss.ds.ts ts).d3, by rw [au (by lia)]; exact (P.ss.ds.ts ts).d2⟩
 generalize ah.set σ'.length (.aF 1 (fL T'.aK.length (.int 2) (.str 227) (.int t) a b)) = aA at RH R3 H3 D3 ⊢
 have IZ := ts.ext.size
 have h4 := R3.aO
 cbv
 refine bT (row := .ae [.int 9, .int T'.aK.length, .ae []]) (d := d + 4) R3 (by lia) (eW.of rfl (by decide) (by decide)) fun dj bc s cH hr NF Uv => ?_
 cbv
 have pG := cH.tr.new hr (by decide) fun h => absurd h (by decide)
 have GP : dj.aK[T'.aK.length]? = some (.ref σ'.length) := by rw [Uv, hd, List.getElem?_append_right (Nat.le_refl _), Nat.sub_self]; rfl
 have RG := cH.fr.old _ _ RH (.inr (by lia))
 have sC := cH.ext.row (ts.ext.row P.row)
 have Nu : ∀ bg : ag, bg[σ'.length]? = some (.aF 1 (fL T'.aK.length (.int 2) (.str 227) (.int t) a b)) -> dU dj bg s (some (es, c0, c1)) := fun bg h => ⟨t, 9, _, hr, .inr rfl, sC, .inr ⟨_, _, _, _, _, _, hr, GP, h⟩⟩
 have TF := cH.fr.old _ _ (H3.gX _ _ P.aO Mj) (.inr (by lia))
 have TJ : SS xs 60 T σ cI dj (bc ++ [.list [.ref n]]) := ((P.ss.trans (⟨D3.ts cH, ts.ext.trans cH.ext, H3.trans cH.fr.hf⟩ : SS xs 2 T' σ' cI dj bc)).keep .push).up (by lia)
 exact q _ dj _ s bc.length 9 _ (some (es, c0, c1)) [L] false 5 (-1) TJ ⟨by have := cH.fr.len; have := H3.len; lia, [n], ay, ⟨Mj, aH TF⟩, trivial⟩
  ⟨hr, pG, Nu _ (aH RG), fun bg h => Nu bg (h _ _ P.ss.fr.len (aH RG)), .inr (.inl ⟨rfl, .inr rfl, .inr rfl⟩), .inl (by decide), tL P.obj, (fun h => nomatch h), fun es' c0' c1' e => by cases e; exact ⟨L, rfl, P.obj, P.yh⟩,
   fun k T' σ' X R d Q q => i8 (d := d + 4) R (by lia) (X.row hr) (.inr rfl) (q σ' .refl), fun h => absurd h (by decide), fun h => absurd h (by decide), .inl rfl, by decide⟩
theorem Kn (hz : T.size + 100 < 999990) (P : Dr xs T σ cI T' σ' n r1 r2 t L es c0 c1) (q : nf xs T m σ Q) : WX (cl (d + 5)) a0.body.tl.tl.tl.tl.tl (gn 8 n t r1 r2) σ' (a6 Q) := by
 have R := P.ss.ds.tr
 have jm := P.ss.ext.size
 cbv
 refine aP (b := -1) (d := d + 3) R (by lia) (by have := R.fH; lia) fun aD ah al ts hs hr hb _ => ?_
 have IZ := ts.ext.size
 have h4 := ts.tr.aO
 cbv
 refine bT (row := .ae [.int 3, .str 217, .int 0]) (d := d + 4) ts.tr (by lia) (eW.of rfl (by decide) (by decide)) fun eP aA p gG Vx _ _ => ?_
 have E7 := gG.ext.size
 cbv
 refine bT (row := .ae [.int 15, .int al, .int p]) (d := d + 4) gG.tr (by lia) (eW.of rfl (by decide) (by decide)) fun dj bc s cH lQ _ _ => ?_
 cbv
 have tt := ts.trans (gG.trans cH)
 exact q _ dj bc s r2 _ _ _ _ true 8 (-1) ((P.ss.trans (tt.ss P.ss.ds)).up (by lia)) (P.most.keep tt.fr.hf.gX) (cZ.open lQ (cH.tr.new lQ (by decide) fun h => absurd h (by decide)) (.inr (.inl rfl)) (by decide) gK (fun k T' σ' X R d Q q => zp (d := d + 3) R (by have := cH.tr.new lQ (by decide) fun h => absurd h (by decide); lia) (X.row lQ) (q σ' .refl)) (fun h => absurd h (by decide)) (.inl rfl))
end
end
section
section
theorem Kp (hz : T.size + 100 < 999990) (P : Dr xs T σ cI T' σ' n r1 r2 t L es c0 c1) (q : nf xs T m σ Q) : WX (cl (d + 5)) a0.body.tl.tl.tl.tl.tl (gn 6 n t r1 r2) σ' (a6 Q) := by
 have R := P.ss.ds.tr
 have jm := P.ss.ext.size
 have GV := R.fH
 cbv
 refine aP (b := -1) (d := d + 3) R (by lia) (by lia) fun aD ah al ts Mm vL hb _ => ?_
 have oH : aD.ao[T'.ao.length]? = some (.int (-1)) := by rw [hb, List.getElem?_append_right (Nat.le_refl _), Nat.sub_self]; rfl
 have IZ := ts.ext.size
 have h4 := ts.tr.aO
 cbv
 refine bT (row := .ae [.int 3, .str 215, .int 0]) (d := d + 4) ts.tr (by lia) (eW.of rfl (by decide) (by decide)) fun eP aA b gG TQ _ _ => ?_
 have E7 := gG.ext.size
 cbv
 refine bT (row := .ae [.int 8, .ae [.ae [.str 223, .int b, .int 0, .int 0]], .ae [], .ae [], .ae [], .ae [], .int 0]) (d := d + 4) gG.tr (by lia) (eW.of rfl (by decide) (by decide)) fun dj bc br cH I4 _ _ => ?_
 have E6 := cH.ext.size
 have h4 := cH.tr.aO
 cbv
 refine bT (row := .ae [.int 7, .ae [.int al, .int br]]) (d := d + 4) cH.tr (by lia) (eW.of rfl (by decide) (by decide)) fun lD bg s dZ lQ _ _ => ?_
 cbv
 have tt := ts.trans (gG.trans (cH.trans dZ))
 have pG := dZ.tr.new lQ (by decide) fun h => absurd h (by decide)
 have Va := cH.tr.new I4 (by decide) fun _ e => by cases e
 have e5 := gG.ext.trans (cH.ext.trans dZ.ext)
 have hn : mL lD s false := fun k T' σ' X R d Q q =>
  tR (ra := []) (d := d) R (by lia) (X.row lQ) ((e5.trans X).row vL) ((e5.trans X).bound oH) (by lia) ((dZ.ext.trans X).row I4) (.inr rfl) (by lia) (fun _ => rfl) (fun h => absurd h (by decide)) q
 have hp : Gh lD s := fun k T' σ' X R d Q q =>
  jw (t0 := al) (cost := 4) R (nh.s7 (X.row lQ) .IC (.cons (r := [al]) ((dZ.ext.trans X).row I4) .G8 (nh.s7 (((cH.ext.trans dZ.ext).trans X).row TQ) .str .nil) (nh.s7 ((e5.trans X).row vL) .rM .nil))) (by decide) (fun g row ks hr hk hg => by
   subst hg
   rw [X.row lQ] at hr
   cases hr
   generalize Pg : V.ae [V.int 7, V.ae [V.int al, V.int br]] = row at hk
   cases hk <;> cases Pg
   exact .inr (.head _)) ((e5.trans X).row vL) q
 exact q _ lD bg s r2 _ _ _ _ false 6 (-1) ((P.ss.trans (tt.ss P.ss.ds)).up (by lia)) (P.most.keep tt.fr.hf.gX) (cZ.open lQ pG (.inr (.inr rfl)) (by decide) gK hn (fun _ => hp) (.inl rfl))
theorem ub {al o s Lx O3 : Nat} {v : Bool} (R : TR T σ) (hs : T.ak[s]? = some (.ae [.int 7, .ae [.int al, .int o]])) (ha : T.ak[al]? = some (.ae [.int 10, .int Lx])) (hb : T.ao[Lx]? = some (.int (-1))) (ho : T.ak[o]? = some (.ae [.int 10, .int O3])) (Mm : 15 < al) (Vy : 15 < o)
  (hv : ip T fun _ σ' => ∀ (d : Nat) (Q' : PQ), Q' (.bool v) σ' -> cl (d + 4) 31 [.ref 4, .int o, .int 1] σ' Q') : 15 < s /\ mL T s v /\ Gh T s := by
 have pG := R.new hs (by decide) fun h => absurd h (by decide)
 refine ⟨pG, fun k T' σ' X R d Q q => ?_, fun k T' σ' X R d Q q => ?_⟩
 ·exact tR (ra := []) (d := d) R (by lia) (X.row hs) (X.row ha) (X.bound hb) (by lia) (X.row ho) (.inl rfl) (by lia) (fun h => absurd h (by decide)) (fun _ Q' q' => hv k T' σ' X R d Q' q') q
 ·exact jw (t0 := al) (cost := 3) R (nh.s7 (X.row hs) .IC (.cons (r := [al]) (X.row ho) .rM .nil (nh.s7 (X.row ha) .rM .nil))) (by decide) (fun g row ks hr hk hg => by
   subst hg
   rw [X.row hs] at hr
   cases hr
   generalize Pg : V.ae [V.int 7, V.ae [V.int al, V.int o]] = row at hk
   cases hk <;> cases Pg
   exact .inr (.head _)) (X.row ha) q
theorem Ko (hz : T.size + 100 < 999990) (hx : ∀ v ∈ xs, ∃ z : Int, v = .int z) (P : Dr xs T σ cI T' σ' n r1 r2 t L es c0 c1) (q : nf xs T m σ Q) : WX (cl (d + 5)) a0.body.tl.tl.tl.tl.tl (gn 7 n t r1 r2) σ' (a6 Q) := by
 have R := P.ss.ds.tr
 have jm := P.ss.ext.size
 have pE := eu R P.row (P.yh.mY P.obj)
 have GV := R.fH
 cbv
 refine dH (d := d + 4) P.ss.ds hx (by decide) (by decide) fun z ah E5 zD X2 => ?_
 cbv
 refine aP (b := -1) (d := d + 3) X2.ds.tr (by lia) (by lia) fun eP aA al ts Mm vL hb _ => ?_
 have oH : eP.ao[T'.ao.length]? = some (.int (-1)) := by rw [hb, List.getElem?_append_right (Nat.le_refl _), Nat.sub_self]; rfl
 have E7 := ts.ext.size
 have Mv := ts.tr.fH
 have X3 := X2.trans (ts.ss X2.ds)
 obtain rfl | rfl : z = 0 \/ z = 1 := gj (k := 0) 1 (by lia) (by lia)
 ·cbv
  refine aP (b := -1) (d := d + 3) ts.tr (by lia) (by lia) fun dj bc o cH ho DE NF _ => ?_
  have Jd : dj.ao[eP.ao.length]? = some (.int (-1)) := by rw [NF, List.getElem?_append_right (Nat.le_refl _), Nat.sub_self]; rfl
  have E6 := cH.ext.size
  have h4 := cH.tr.aO
  cbv
  refine bT (row := .ae [.int 7, .ae [.int al, .int o]]) (d := d + 4) cH.tr (by lia) (eW.of rfl (by decide) (by decide)) fun lD bg s dZ lQ _ _ => ?_
  cbv
  have X5 := X3.trans ((cH.trans dZ).ss X3.ds)
  obtain ⟨pG, hn, hp⟩ := ub (v := true) dZ.tr lQ ((cH.ext.trans dZ.ext).row vL) ((cH.ext.trans dZ.ext).bound oH) (dZ.ext.row DE) (by lia) (by lia) fun k T' σ' X R d Q' q' => n3 (d := d + 1) R (by lia) ((dZ.ext.trans X).row DE) ((dZ.ext.trans X).bound Jd) q'
  exact q _ lD bg s r2 _ _ _ _ true 7 (-1) ((P.ss.trans X5).up (by lia)) (P.most.keep X5.fr.gX) (cZ.open lQ pG (.inr (.inr rfl)) (by decide) gK hn (fun _ => hp) (.inl rfl))
 ·cbv
  refine aP (b := (t : Nat)) (d := d + 3) ts.tr (by lia) (by have := ts.tr.lt (ts.ext.row P.row); lia) fun dj bc o cH ho DE NF _ => ?_
  have Jd : dj.ao[eP.ao.length]? = some (.int (t : Nat)) := by rw [NF, List.getElem?_append_right (Nat.le_refl _), Nat.sub_self]; rfl
  have E6 := cH.ext.size
  have h4 := cH.tr.aO
  cbv
  refine bT (row := .ae [.int 7, .ae [.int al, .int o]]) (d := d + 4) cH.tr (by lia) (eW.of rfl (by decide) (by decide)) fun lD bg s dZ lQ _ _ => ?_
  cbv
  have X5 := X3.trans ((cH.trans dZ).ss X3.ds)
  obtain ⟨pG, hn, hp⟩ := ub (v := false) dZ.tr lQ ((cH.ext.trans dZ.ext).row vL) ((cH.ext.trans dZ.ext).bound oH) (dZ.ext.row DE) (by lia) (by lia) fun k T' σ' X R d Q' q' =>
   ez (d := d + 1) R (by lia) ((dZ.ext.trans X).row DE) ((dZ.ext.trans X).bound Jd) (by decide) (fun QH H0 => i8 (d := d + 1) R (by lia) ((ts.ext.trans (cH.ext.trans (dZ.ext.trans X))).row P.row) (.inl rfl) H0) q'
  exact q _ lD bg s r1 _ _ _ _ false 7 (-1) ((P.ss.trans X5).up (by lia)) (P.some.keep X5.fr.gX) (cZ.open lQ pG (.inr (.inr rfl)) (by decide) P.obj hn (fun _ => hp) (.inl rfl))
end
end
section
noncomputable def jM (L : List En) : List En := L.map fun e => { e with mask := 1 }
section
variable {S : cW}
theorem wq {s over vv : Nat} {pa : V} {rs : List V} (R : TR T σ) (h2 : 11 < s) (hr : T.ak[s]? = some (.ae (.int 17 :: pa :: .int over :: rs))) (ho : T.ak[over]? = some (.ae [.int 14, .int vv])) (hd : dp <= 20)
  (h : ∀ Q', Q' (.bool v) σ -> cl (d + 3) 31 [.ref 4, .int vv, .int (dp + 1)] σ Q') (q : Q (.bool v) σ) : cl (d + 5) 31 [.ref 4, .int s, .int dp] σ Q := by
 have h4 := R.aO
 refine bu ?_
 refine .ae ?_
 cbv
 refine cJ R (.inr ⟨by lia, 17, _, hr, .inr ⟨by decide, rfl⟩⟩) ?_
 cbv
 refine aG (aI R hr) ?_
 cbv
 refine aj (fun e => by lia) (fun _ => ?_)
 cbv
 refine aj (fun e => by lia) (fun _ => ?_)
 cbv
 refine gO R hr (.inr (.inr (.inr rfl))) ?_
 cbv
 refine dv (.inl rfl) ?_
 cbv
 refine gw ?_
 cbv
 refine aG (aI R ho) ?_
 cbv
 refine aj (fun _ => ?_) (fun e => absurd hd e)
 cbv
 refine h _ ?_
 cases v <;> (cbv; exact q)
theorem bH.up {s u : Nat} (x : bH T n m s u v c h) (h1 : c <= c') (h2 : h <= h') : bH T n m s u v c' h' :=
 ⟨x.iff, fun d σ S Q hd R A U hl xh q => x.ask d σ S Q (by lia) R A U (by lia) (by lia) fun S' σ' X O => q S' σ' (X.up h1) O⟩
theorem mJ : ∀ {as : List Nat} {Ls : List (List En)}, eJ σ as Ls -> (∀ a ∈ as, ∀ o, σ[a]? = some o -> σ'[a]? = some o) -> eJ σ' as Ls
 | [], [], _, _ => trivial
 | _ :: _, _ :: _, h, k => ⟨⟨h.1.1, k _ (.head _) _ h.1.2⟩, mJ h.2 fun a ha => k a (.tail _ ha)⟩
theorem o6 : ∀ {as : List Nat} {Ls : List (List En)} {a : Nat} {L : List En}, eJ σ as Ls -> 22 < a /\ σ[a]? = some (.dict .str (bV L)) -> eJ σ (as ++ [a]) (Ls ++ [L])
 | [], [], _, _, _, g => ⟨g, trivial⟩
 | _ :: _, _ :: _, _, _, h, g => ⟨h.1, o6 h.2 g⟩
theorem Iz {dn td : List En} {e : En} (hn : (L.map (·.name)).Nodup) (h : dn ++ e :: td = L) : ∀ x ∈ jM dn, x.name ≠ e.name := fun x hx g => by
 obtain ⟨y, hy, rfl⟩ := List.mem_map.mp hx
 rw [<- h, List.map_append] at hn
 exact (List.nodup_append.mp hn).2.2 y.name (List.mem_map.mpr ⟨y, hy, rfl⟩) e.name (.head _) g
theorem Ff {Φ : PF} {ew : SL} (hw : dc σ r Ls) (hl : ∀ L ∈ Ls, L.length <= 10) (I8 : Ls.length <= 10) (s9 : ∀ L ∈ Ls, (L.map (·.name)).Nodup) (jn : 22 < σ.length)
  {e0 e1 e2 e3 e4 e6 e7 e8 e9 ea eb ec ed ee ef : Option V} (q : ∀ σ' y1 y2 y3, aV σ σ' -> dc σ' σ.length (Ls.map jM) -> WX (cl d) ew [e0, e1, e2, e3, e4, some (.ref r), e6, e7, e8, e9, ea, eb, ec, ed, ee, ef, some (.ref σ.length), y1, y2, y3] σ' Φ) :
  WX (cl d) (.cons (.dK 17 (.aa 5) (.cons (.assign 18 (.dict .str [])) (.cons (.dK 19 (.aa 17) (.cons (.setItem (.aa 18) (.aa 19) (.ae (.cons (.lit (.int 1)) (.cons (.sub (.sub (.aa 17) (.aa 19)) (.lit (.int 1))) (.cons (.sub (.sub (.aa 17) (.aa 19)) (.lit (.int 2))) .nil))))) .nil)) (.cons (.expr (.aM (.aa 16) 0 (.cons (.aa 18) .nil))) .nil)))) ew) [e0, e1, e2, e3, e4, some (.ref r), e6, e7, e8, e9, ea, eb, ec, ed, ee, ef, some (.ref σ.length), none, none, none] (σ ++ [.list []]) Φ := by
 obtain ⟨hr, as, vL, Fh⟩ := hw
 obtain ⟨ps, rfl, rfl, nD⟩ := o7 Fh
 refine cT.cv (fun p : Nat × List En => .ref p.1) (.seq (.ref r)) ((ps.map (·.1)).map .ref) ps (fun i : E8 × List Nat => [e0, e1, e2, e3, e4, some (.ref r), e6, e7, e8, e9, ea, eb, ec, ed, ee, ef, some (.ref σ.length), i.1.a, i.1.b, i.1.c])
  (fun dn _ i ab => aV σ ab /\ ab[σ.length]? = some (.list (i.2.map .ref)) /\ eJ ab i.2 ((dn.map (·.2)).map jM) /\ (∀ b ∈ i.2, σ.length < b) /\ i.2.length = dn.length) ?_ ?_ ?_
 ·refine eL (aH vL) ?_
  refine .cn (List.map_map ..) (E8.p3 _ _ _, []) ?_
  exact ⟨.push, ay, trivial, (fun _ h => nomatch h), rfl⟩
 ·intro dn p td i ab hp K
  have hm := qy hp
  have Cq := (nD p hm).2
  have Cp := K.1.old _ _ Cq
  have Mm := (dX Cq)
  have hL := List.mem_map_of_mem (f := (·.2)) hm
  have UJ := Nat.le_trans (eC hp) (by rw [List.length_map] at I8; exact I8)
  have Am := (dX K.2.1)
  have PJ := K.2.2.2.2
  refine cT.cv (fun e : En => .str e.name) (.j6 p.1 (bV p.2)) ((bV p.2).map (·.1)) p.2 (fun i : E8 => [e0, e1, e2, e3, e4, some (.ref r), e6, e7, e8, e9, ea, eb, ec, ed, ee, ef, some (.ref σ.length), some (.ref p.1), some (.ref ab.length), i.a])
   (fun MM _ _ ah => ah[p.1]? = some (.bq (bV p.2)) /\ ah[ab.length]? = some (.dict .str (bV (jM MM))) /\ ab.length <= ah.length /\ ∀ (b : Nat) o, ab[b]? = some o -> b ≠ p.1 -> ah[b]? = some o) ?_ ?_ ?_
  ·have h1 := aH (p := aN.dict .str []) Cp
   refine iE h1 ?_
   refine .cn (jh _) (E8.p _) ?_
   exact ⟨aE h1, (au (by lia)).trans ay, by rw [List.length_set, List.length_append]; exact Nat.le_add_right _ _, fun b o h g => (au g.symm).trans (aH h)⟩
  ·intro L1 e L2 i ah uJ I
   have p7 := Nat.le_trans (eC uJ) (hl p.2 hL)
   have hg := jg (x := .str e.name) I.1 rfl (lx (s9 p.2 hL) e (qy uJ))
   have Rz := I.2.2.1
   cbv
   refine aG hg ?_
   cbv
   refine aG hg ?_
   cbv
   refine dI (cg I.2.1 rfl (by rw [hV]; unfold jM; rw [List.length_map]; lia)) ?_
   rw [show cP (bV (jM L1)) (.str e.name) (.ae [.int 1, .bool e.free, .bool e.aT]) = bV (jM (L1 ++ [e])) from (lu (e := { e with mask := 1 }) (Iz (e := e) (s9 p.2 hL) uJ)).trans (by unfold jM; rw [List.map_append]; rfl)]
   have h1 := (au (o := .dict .str (bV (jM (L1 ++ [e])))) (show ab.length ≠ p.1 by lia)).trans I.1
   refine ⟨h1, .next uJ (E8.p _) ?_⟩
   exact ⟨h1, aE I.2.1, by rw [List.length_set]; exact Rz, fun b o h g => by rw [au (by have := (dX h); lia)]; exact I.2.2.2 b o h g⟩
  ·intro i2 ah I
   refine ⟨I.1, ?_⟩
   have K2 : aV ab (ah.set p.1 (.dict .str (bV p.2))) := ⟨by rw [List.length_set]; exact I.2.2.1, fun b o h => by
    by_cases e : b = p.1
    ·rw [e] at h ⊢; rw [Cp] at h; rw [<- h]; exact aE I.1
    ·rw [au fun g => e g.symm]; exact I.2.2.2 b o h e⟩
   have Mc := K2.old _ _ K.2.1
   refine eF Mc rfl ?_
   cbv
   refine cw Mc (by rw [List.length_map]; lia) ?_
   have K3 : aV σ ((ah.set p.1 (.dict .str (bV p.2))).set σ.length (.list (i.2.map .ref ++ [.ref ab.length]))) := (K.1.trans K2).set (Nat.le_refl _)
   refine ⟨ba (K3.old _ _ vL), .next hp (E8.p3 _ _ _, i.2 ++ [ab.length]) ?_⟩
   refine ⟨K3, by rw [List.map_append]; exact aE Mc, ?_, ?_, by rw [List.length_append, List.length_append, PJ]; rfl⟩
   ·rw [List.map_append, List.map_append]
    refine o6 (mJ K.2.2.1 fun b PI o h => ?_) ⟨by lia, by rw [au (by lia), au (by lia)]; exact I.2.1⟩
    rw [au (by have := K.2.2.2.1 b PI; lia)]; exact K2.old _ _ h
   ·exact fun b PI => (List.mem_append.mp PI).elim (K.2.2.2.1 b) fun h => List.mem_singleton.mp h ▸ Am
 ·intro i ab K
  exact q ab _ _ _ K.1 ⟨jn, i.2, K.2.1, K.2.2.1⟩
end
end
section
section
theorem zj (O : ff L) : pv ((bZ L).map jM) /\ yS ((bZ L).map jM) := by
 obtain ⟨g, f⟩ := fS O
 have up : ∀ {P : En -> Prop} {P' : En -> Prop}, (∀ e, P e -> P' { e with mask := 1 }) -> (∃ M ∈ bZ L, ∃ e ∈ M, P e) -> ∃ M ∈ (bZ L).map jM, ∃ e ∈ M, P' e := fun hp ⟨M, hM, e, he, h⟩ =>
  ⟨jM M, List.mem_map.mpr ⟨M, hM, rfl⟩, { e with mask := 1 }, List.mem_map.mpr ⟨e, he, rfl⟩, hp e h⟩
 refine ⟨⟨by rw [List.length_map]; exact g.len, fun M hM => ?_⟩, up (fun e h => ⟨h.1, h.2.1, (show (1 : Int) ∈ [1, 3, 7] by decide)⟩) f.DD, up (fun e h => h) f.HN, up (fun e h => h) f.Ra⟩
 obtain ⟨M', UI, rfl⟩ := List.mem_map.mp hM
 obtain ⟨h1, h2, h3⟩ := g.cv M' UI
 refine ⟨by unfold jM; rw [List.length_map]; exact h1, by unfold jM; rw [List.map_map]; exact h2, fun e he => ?_⟩
 obtain ⟨x, _, rfl⟩ := List.mem_map.mp he
 exact (by decide : (1 : Int) ∈ fU)
theorem rH {p s : Nat} {a b : Int} {ra rs : List V} (hp : T.ak[p]? = some (.ae (.int a :: ra))) (hs : T.ak[s]? = some (.ae (.int b :: rs))) (h : a ≠ b) : p ≠ s := fun e => by
 rw [e, hs] at hp; cases hp; exact h rfl
theorem o4 {p s : Nat} {a : Int} {ra rs : List V} (hm : m ≠ 3) (hp : T.ak[p]? = some (.ae (.int a :: ra))) (hs : T.ak[s]? = some (.ae (.int 17 :: rs))) (la : vA a ra) (p0 : p ∉ [0, 1, 2, 13]) (pG : 15 < s) (ha : a ≠ 6 /\ a ≠ 10) (UP : a ≠ 17) : bH T n m p s false 1 1 :=
 jj hm (rH hp hs UP) ⟨hp, hs, p0, by simp only [List.mem_cons, List.not_mem_nil, or_false]; lia, fun e => by lia, .inr (by decide)⟩ la (bM (by decide)) ha.1 ha.2 (by decide) (.inr (.inr (.inr (by decide))))
theorem Ll : vA 8 [.ae (es.map j7.jl), .ae [], .ae [], cell c0, cell c1, .int 0] := fun _ => ⟨0, rfl, by decide⟩
theorem FU {s vv i : Nat} {rs : List V} (hm : m ≠ 3) (hv : T.ak[vv]? = some (.ae [.int 10, .int i])) (hb : T.ao[i]? = some (.int t)) (hr : T.ak[t]? = some (cf es c0 c1)) (pE : 15 < t) (TB : t < vv) (hs : T.ak[s]? = some (.ae (.int 17 :: rs))) (pG : 15 < s) : bH T 14 m vv s false 4 3 :=
 (pg hm (rH hv hs (by decide)) ⟨hv, hs, by simp only [List.mem_cons, List.not_mem_nil, or_false]; lia, by simp only [List.mem_cons, List.not_mem_nil, or_false]; lia, fun e => by lia, .inr (by decide)⟩ (bM (by decide)) hb (by lia) TB (by decide) (by decide) (by decide) (o4 hm hr hs Ll (by simp only [List.mem_cons, List.not_mem_nil, or_false]; lia) (by lia) (by decide) (by decide))).up (by decide) (by decide)
theorem De {s vv i u : Nat} {rs : List V} (R : TR T σ) (hm : m ≠ 3) (hv : T.ak[vv]? = some (.ae [.int 10, .int i])) (hb : T.ao[i]? = some (.int u)) (hu : Un T u (sd [t, 5])) (hr : T.ak[t]? = some (cf es c0 c1)) (pE : 15 < t) (Tw : u < vv) (hs : T.ak[s]? = some (.ae (.int 17 :: rs))) (pG : 15 < s) : bH T 14 m vv s false 4 3 := by
 have ht : (t : Int) ∈ sd [t, 5] := c9.mpr ⟨t, .head _, rfl⟩
 have h5 : (5 : Int) ∈ sd [t, 5] := c9.mpr ⟨5, .tail _ (.head _), rfl⟩
 have sC : T.ak[u]? = some (.ae [.int 6, .ae ((sd [t, 5]).map .int)]) := by
  rcases hu with ⟨h, _⟩ | h | ⟨_, h⟩
  ·rw [h] at ht; cases ht
  ·rw [h] at ht h5
   have e1 := List.mem_singleton.mp ht
   have e2 := List.mem_singleton.mp h5
   lia
  ·exact h
 have cQ : ((sd [t, 5]).map V.int).length <= 2 := by
  unfold sd; rw [List.length_map, List.length_mergeSort, List.length_map]
  exact eO [t, 5] []
 have Pw : ∀ p : Nat, V.int p ∈ (sd [t, 5]).map V.int -> p = t \/ p = 5 := fun p hp => by
  obtain ⟨q, hq, e⟩ := c9.mp (gp.mp hp)
  rw [<- Int.ofNat.inj e]
  rcases List.mem_cons.mp hq with rfl | hq
  ·exact .inl rfl
  ·exact .inr (List.mem_singleton.mp hq)
 obtain ⟨p0, Pm, fP⟩ := R.y7 u _ sC _ (gp.mpr ht)
 cases Int.ofNat.inj (V.int.inj Pm)
 obtain ⟨q0, v9, he⟩ : ∃ (q0 : Nat) (v9 : List V), (sd [t, 5]).map V.int = .int q0 :: v9 := by
  cases vK : (sd [t, 5]).map V.int with
  | nil => have := gp.mpr ht; rw [vK] at this; cases this
  | cons x l =>
   obtain ⟨q, e, _⟩ := R.y7 u _ sC x (by rw [vK]; exact .head _)
   exact ⟨q, l, by rw [e]⟩
 have K := pj (n := 14) (t := s) (c := 1) (h := 1) hm (rH sC hs (by decide)) ⟨sC, hs, by simp only [List.mem_cons, List.not_mem_nil, or_false]; lia, by simp only [List.mem_cons, List.not_mem_nil, or_false]; lia, fun e => by lia, .inr (by decide)⟩ (bM (by decide)) (by lia) (by decide) he (by lia) (fun p hp => by
  rcases Pw p hp with rfl | rfl
  ·exact o4 hm hr hs Ll (by simp only [List.mem_cons, List.not_mem_nil, or_false]; lia) (by lia) (by decide) (by decide)
  ·exact o4 hm (R.bN (t := 5) rfl) hs (bM (by decide)) (by decide) (by lia) (by decide) (by decide))
 exact (pg hm (rH hv hs (by decide)) ⟨hv, hs, by simp only [List.mem_cons, List.not_mem_nil, or_false]; lia, by simp only [List.mem_cons, List.not_mem_nil, or_false]; lia, fun e => by lia, .inr (by decide)⟩ (bM (by decide)) hb (by lia) Tw (by decide) (by decide) (by lia) K).up (by lia) (by decide)
theorem qo {eP : cN} {aA : ag} {vv al i : Nat} {z2 : Int} {Bo : Nat} (hz : T.size + 100 < 999990) (X3 : SS xs 45 T σ Bo eP aA) (hw : dc aA r1 (bZ L)) (O : ff L) (hv : eP.ak[vv]? = some (.ae [.int 10, .int i])) (Vj : 15 < vv) (nul : Bool) (O9 : decide (z2 = 0) = nul)
  (hn : ip eP fun _ σ' => ∀ (d : Nat) (Q' : PQ), Q' (.bool nul) σ' -> cl (d + 4) 31 [.ref 4, .int vv, .int 1] σ' Q') (PN : ∀ (s : Nat) (rs : List V), 15 < s -> ip eP fun T' _ => T'.ak[s]? = some (.ae (.int 17 :: rs)) -> m ≠ 3 -> bH T' 14 m vv s false 4 3) (q : nf xs T m σ Q) :
  cl (d + 5) 3 [.ref 4, .ae [.int 14, .int vv]] aA fun v σ' => WX (cl (d + 5)) a0.body.tl.tl.tl.tl.tl.tl.tl.tl.tl.tl.tl.tl.tl.tl.tl.tl.tl [some (.ref 3), some (.ref 4), some (.int 9), some (.ref n), some (.int t), some (.ref r1), some (.ref r2), some (.int z2), none, none, some (.int al), none, none, some v, none, none, none, none, none, none] σ' (a6 Q) := by
 have jm := X3.ext.size
 have R := X3.ds.tr
 refine bT (row := .ae [.int 14, .int vv]) (d := d + 4) R (by lia) (eW.of rfl (by decide) (by decide)) fun dj bc ov cH DE _ _ => ?_
 have E6 := cH.ext.size
 have H9 := cH.tr.new DE (by decide) fun h => absurd h (by decide)
 cbv
 refine aP (b := (ov : Nat)) (d := d + 3) cH.tr (by lia) (by have := cH.tr.lt DE; lia) fun lD bg me dZ zF E9 ND _ => ?_
 have TI := dZ.ext.size
 have h4 := dZ.tr.aO
 cbv
 refine aG (aI dZ.tr E9) ?_
 cbv
 refine bT (row := .ae [.int 3, .str 214, .int 0]) (d := d + 4) dZ.tr (by lia) (eW.of rfl (by decide) (by decide)) fun Nb iy tv rA TM _ _ => ?_
 have TH := rA.ext.size
 have h4 := rA.tr.aO
 cbv
 refine bT (row := .ae [.int 17, .int dj.ao.length, .int ov, .int (-1), .int tv, .int 0, .int 0]) (d := d + 4) rA.tr (by lia) (eW.of rfl (by decide) (by decide)) fun xF ix s rz lQ _ _ => ?_
 have pG := rz.tr.new lQ (by decide) fun h => absurd h (by decide)
 have X7 := X3.trans ((cH.trans (dZ.trans (rA.trans rz))).ss X3.ds)
 have Ru := hw.keep (cH.trans (dZ.trans (rA.trans rz))).fr.hf.gX
 have jn : 22 < ix.length := by
  obtain ⟨g, as, g2, _⟩ := Ru
  have := (dX g2); lia
 obtain ⟨wg, wf⟩ := fS O
 obtain ⟨og, of⟩ := zj O
 cbv
 refine Ff Ru (fun M hM => (wg.cv M hM).1) wg.len (fun M hM => (wg.cv M hM).2.1) jn fun gA y1 y2 y3 K w8 => ?_
 cbv
 subst O9
 have Qe := dZ.ext.trans (rA.ext.trans rz.ext)
 have Rv := cH.ext.trans Qe
 have Pr : mL xF s _ := fun k T' σ' X R d Q q => wq (d := d + 1) R (by lia) (X.row lQ) ((Qe.trans X).row DE) (by decide) (fun Q' q' => hn _ T' σ' (Rv.trans X) R d Q' q') (q _ .refl)
 exact q Bo xF gA s _ 17 _ none _ _ 9 (-1) ((X7.keep K).up (by lia)) w8 ⟨lQ, pG, ⟨17, _, lQ, .inr (.inr (.inr rfl))⟩, fun _ _ => ⟨17, _, lQ, .inr (.inr (.inr rfl))⟩, .inr (.inr ⟨rfl, rfl, rfl⟩), .inl (by decide), og, fun _ => of, fun _ _ _ h => (nomatch h), Pr, fun h => absurd h (by decide), fun _ => ⟨_, _, ov, vv, rfl, Qe.row DE, H9, fun k T' σ' X R hm => PN s _ pG _ T' σ' (Rv.trans X) R (X.row lQ) hm⟩, .inl rfl, by decide, by decide⟩
end
end
section
section
theorem Km (hz : T.size + 100 < 999990) (hx : ∀ v ∈ xs, ∃ z : Int, v = .int z) (P : Dr xs T σ cI T' σ' n r1 r2 t L es c0 c1) (q : nf xs T m σ Q) : WX (cl (d + 5)) a0.body.tl.tl.tl.tl.tl (gn 9 n t r1 r2) σ' (a6 Q) := by
 have R := P.ss.ds.tr
 have jm := P.ss.ext.size
 have pE := eu R P.row (P.yh.mY P.obj)
 have GV := R.fH
 cbv
 refine dH (d := d + 4) P.ss.ds hx (by decide) (by decide) fun z ah E5 zD X2 => ?_
 cbv
 refine aP (b := -1) (d := d + 3) X2.ds.tr (by lia) (by lia) fun eP aA al ts Mm vL hb _ => ?_
 have E7 := ts.ext.size
 have Mv := ts.tr.fH
 have X3 := X2.trans (ts.ss X2.ds)
 have h4 := ts.tr.aO
 obtain rfl | rfl : z = 0 \/ z = 1 := gj (k := 0) 1 (by lia) (by lia)
 ·cbv
  refine nI (y := 5) (d := d + 2) ts.tr.push (by lia) (ba ay) (ts.ext.row P.row) pE (.inr rfl) fun dj bc u cH UA hu Pb => ?_
  have E6 := cH.ext.size
  have h4 := cH.tr.aO
  cbv
  refine aP (b := (u : Nat)) (d := d + 3) cH.tr (by lia) (by lia) fun lD bg vv dZ hv I0 ND _ => ?_
  have oH : lD.ao[dj.ao.length]? = some (.int (u : Nat)) := by rw [ND, List.getElem?_append_right (Nat.le_refl _), Nat.sub_self]; rfl
  have h4 := dZ.tr.aO
  have X5 := (X3.keep (.push (o := .list [.int t, .int 5]))).trans ((cH.trans dZ).ss (X3.ds.keep .push))
  have e5 := cH.ext.trans dZ.ext
  have ht := (ts.ext.trans cH.ext).row P.row
  have UQ := cH.tr.fH
  cbv
  refine qo hz ((P.ss.trans X5).up (by lia)) (P.some.keep X5.fr.gX) P.obj I0 (by lia) true rfl (fun k T' σ' X R d Q' q' => ?_) (fun s rs hs k T' σ' X R lQ hm => ?_) q
  ·exact ez (d := d + 1) R (by lia) (X.row I0) (X.bound oH) (by decide) (fun QH H0 => BD (d := d + 1) cH.tr hu ht pE (.inr rfl) (dZ.ext.trans X) R H0) q'
  ·exact De R hm (X.row I0) (X.bound oH) (hu.imp id (Or.imp id fun ⟨a, b⟩ => ⟨a, (dZ.ext.trans X).row b⟩)) (X.row (dZ.ext.row ht)) pE (by lia) lQ hs
 ·cbv
  refine aP (b := (t : Nat)) (d := d + 3) ts.tr (by lia) (by have := ts.tr.lt (ts.ext.row P.row); lia) fun lD bg vv dZ hv I0 ND _ => ?_
  have oH : lD.ao[eP.ao.length]? = some (.int (t : Nat)) := by rw [ND, List.getElem?_append_right (Nat.le_refl _), Nat.sub_self]; rfl
  have h4 := dZ.tr.aO
  have X5 := X3.trans (dZ.ss X3.ds)
  have ht := (ts.ext.trans dZ.ext).row P.row
  have TC := ts.tr.lt (ts.ext.row P.row)
  cbv
  refine qo hz ((P.ss.trans X5).up (by lia)) (P.some.keep X5.fr.gX) P.obj I0 (by lia) false rfl (fun k T' σ' X R d Q' q' => ?_) (fun s rs hs k T' σ' X R lQ hm => ?_) q
  ·exact ez (d := d + 1) R (by lia) (X.row I0) (X.bound oH) (by decide) (fun QH H0 => i8 (d := d + 1) R (by lia) (X.row ht) (.inl rfl) H0) q'
  ·exact FU hm (X.row I0) (X.bound oH) (X.row ht) pE (by lia) lQ hs
theorem zc (D : DS xs pos T σ) (jn : 22 < σ.length) (hz : T.size + 100 < 999990) (hx : ∀ v ∈ xs, ∃ z : Int, v = .int z) (q : nf xs T m σ Q) : cl (d + 6) 86 [.ref 3, .ref 4] σ Q := by
 refine vV D jn hz hx fun z cI T' σ' n r1 r2 t L es c0 c1 h0 h1 P => ?_
 obtain rfl | rfl | rfl | rfl | rfl | rfl | rfl | rfl | rfl | rfl : z = 0 \/ z = 1 \/ z = 2 \/ z = 3 \/ z = 4 \/ z = 5 \/ z = 6 \/ z = 7 \/ z = 8 \/ z = 9 := gj (k := 0) 9 (by lia) (by lia)
 ·exact Kv hz P q
 ·exact Ku hz P q
 ·exact Kt hz hx P q
 ·exact Ks hz P q
 ·exact Kr P q
 ·exact Kq hz P q
 ·exact Kp hz P q
 ·exact Ko hz hx P q
 ·exact Kn hz P q
 ·exact Km hz hx P q
end
end
variable {b0 : Nat} {a7 : Int} {nul : Bool}
section
section
variable {up : Int}
theorem dU.ext (x : bb k T T') (h : dU T σ s sh) : dU T' σ s sh := by
 rcases sh with _ | ⟨es, c0, c1⟩
 ·obtain ⟨a, b, h1, h2⟩ := h
  exact ⟨a, b, x.row h1, h2⟩
 ·obtain ⟨w, a, b, h1, h2, h3, h4⟩ := h
  refine ⟨w, a, b, x.row h1, h2, x.row h3, h4.imp id fun h => ?_⟩
  obtain ⟨l, e⟩ := x.aK
  obtain ⟨d1, d2, d3, d4, d5, d6, g⟩ := h
  exact ⟨d1, d2, d3, d4, d5, d6, x.row g.1, by rw [<- e, List.getElem?_append_left (dX g.2.1)]; exact g.2.1, g.2.2⟩
theorem ip.ext {P : cN -> ag -> Prop} (x : bb k T T') (h : ip T P) : ip T' P := fun j Hg cy X R => h (k + j) Hg cy (x.trans X) R
theorem cZ.to (h : cZ b0 T m σ s a ra sh Ls nul a7 up) (x : bb k T T') (y : ∀ (b : Nat) o, b0 <= b -> σ[b]? = some o -> σ'[b]? = some o) : cZ b0 T' m σ' s a ra sh Ls nul a7 up :=
 ⟨x.row h.hs, h.pG, (h.MQ σ' y).ext x, fun cy g => (h.MQ cy fun b o hb e => g b o hb (y b o hb e)).ext x, h.cls, h.emp, h.sF, h.mY, h.s7, ip.ext x h.nul, fun e => ip.ext x (h.Mk e), fun e => (h.Ee e).imp fun _ h => h.imp fun _ h => h.imp fun _ h => h.imp fun _ g => ⟨g.1, x.row g.2.1, g.2.2.1, ip.ext x g.2.2.2⟩, h.up, h.a7⟩
theorem HF.from (x : HF σ σ') (h : 22 < b0) : ∀ (b : Nat) o, b0 <= b -> σ[b]? = some o -> σ'[b]? = some o := fun b o hb e => x.old b o e (by lia)
theorem FT (D : DS xs pos T σ) (jn : 22 < σ.length) (hz : T.size + 100 < 999990) (hx : ∀ v ∈ xs, ∃ z : Int, v = .int z)
  (k : ∀ cI T' σ' s r a ra sh Ls nul a7 up w f opt ro (nm : Bool), SS xs 60 T σ cI T' σ' -> dc σ' r Ls -> cZ σ.length T' m σ' s a ra sh Ls nul a7 up -> 0 <= w -> w < 7 -> 0 <= f -> f < 6 -> (opt = 0 \/ opt = 1 \/ opt = 2) -> 0 <= ro -> ro < 3 ->
   WX (cl (d + 7)) bz.body.tl.tl.tl.tl.tl.tl [some (.ref 3), some (.ref 4), some (.ref 14), some (.int s), some (.ref r), some (.bool nul), some (.int a7), some (.int up), some (.int w), some (.int f), some (.int opt), some (.int ro), some (.bool nm), none, none, none, none, none, none, none, none, none, none, none, none, none, none, none, none, none, none, none, none] σ' (a6 Q)) :
  cl (d + 8) 89 [.ref 3, .ref 4, .ref 14] σ Q := by
 refine sj ?_
 cbv
 refine zc (d := d + 1) (m := m) D jn hz hx fun nX aZ ab s r a ra sh Ls nul a7 up X1 hw hs => ?_
 cbv
 refine dH (d := d + 6) X1.ds hx (by decide) (by decide) fun w ah Tv Tu X2 => ?_
 cbv
 refine dH (d := d + 6) X2.ds hx (by decide) (by decide) fun f aA Us J1 X3 => ?_
 cbv
 refine dH (d := d + 6) X3.ds hx (by decide) (by decide) fun z bc E5 zD X4 => ?_
 have p5 : ∃ opt : Int, yr (.ae [.int 0, .int 1, .int 0, .int 2]) (.int z) = some (.int opt) /\ (opt = 0 \/ opt = 1 \/ opt = 2) := by
  obtain rfl | rfl | rfl | rfl : z = 0 \/ z = 1 \/ z = 2 \/ z = 3 := gj (k := 0) 3 (by lia) (by lia)
  ·exact ⟨0, rfl, .inl rfl⟩
  ·exact ⟨1, rfl, .inr (.inl rfl)⟩
  ·exact ⟨0, rfl, .inl rfl⟩
  ·exact ⟨2, rfl, .inr (.inr rfl)⟩
 obtain ⟨opt, ho, p5⟩ := p5
 refine ir ho ?_
 cbv
 refine dH (d := d + 6) X4.ds hx (by decide) (by decide) fun ro bg RC RB X5 => ?_
 cbv
 refine dH (d := d + 6) X5.ds hx (by decide) (by decide) fun z9 iy _ _ X6 => ?_
 have X := X2.trans (X3.trans (X4.trans (X5.trans X6)))
 exact k _ aZ iy s r a ra sh Ls nul a7 up w f opt ro _ ((X1.trans X).up (by decide)) (hw.keep X.fr.gX) (hs.to X.ext (X.fr.from jn)) Tv Tu Us J1 p5 RC RB
noncomputable def pq (L : List En) : List Nat := (L.filter fun e => decide (e.name = 217 \/ e.name = 218)).map (·.name)
noncomputable def qk (a7 : Int) (L : List En) : List Nat := if a7 = 1 \/ a7 = 3 \/ a7 = 4 \/ a7 = 5 then pq L else []
theorem xP {a7 : Int} {L1 L2 : List En} : qk a7 (L1 ++ L2) = qk a7 L1 ++ qk a7 L2 := by
 unfold qk pq
 split
 ·rw [List.filter_append, List.map_append]
 ·rfl
theorem FR {e0 e2 e3 e5 e7 e8 e9 ea eb ec : Option V} {E : Env} (R : TR T σ) (hz : T.size + 20 < 999990) (hw : dc σ r (L :: Ls)) (s9 : (L.map (·.name)).Nodup) (hl : L.length <= 10) (hE : E = [e0, some (.ref 4), e2, e3, some (.ref r), e5, some (.int a7), e7, e8, e9, ea, eb, ec, none, none, none, none, none, none, none, none, none, none, none, none, none, none, none, none, none, none, none, none])
  (q : ∀ T' σ' is, TS 10 T σ T' σ' -> bA T' (qk a7 L) is -> Q (.ref σ'.length) (σ' ++ [.list (dt is)])) :
  WE (cl (d + 1)) E (.comp (.aM (.aa 1) 6 (.cons (.ae (.cons (.lit (.int 3)) (.cons (.aa 31) (.cons (.lit (.int 0)) .nil)))) .nil)) 31 (.sub (.aa 4) (.lit (.int 0))) (.cons (.and (.cons (.aB .bt (.aa 31) (.ae (.cons (.lit (.str 217)) (.cons (.lit (.str 218)) .nil)))) (.cons (.aB .bt (.aa 6) (.ae (.cons (.lit (.int 1)) (.cons (.lit (.int 3)) (.cons (.lit (.int 4)) (.cons (.lit (.int 5)) .nil)))))) .nil))) .nil)) σ Q := by
 subst hE
 obtain ⟨hr, as, vL, Fh⟩ := hw
 cases as with
 | nil => exact Fh.elim
 | cons a as =>
 obtain ⟨⟨ha, Cq⟩, Fh⟩ := Fh
 have LV : ∀ dn, (qk a7 dn).length <= dn.length := fun dn => by
  unfold qk pq; split
  ·rw [List.length_map]; exact List.length_filter_le _ _
  ·exact Nat.zero_le _
 refine c6.u0 (fun e : En => .str e.name) (.j6 a (bV L)) ((bV L).map (·.1)) L (fun dn _ acc ab => ∃ aZ is, acc = dt is /\ TS dn.length T (σ.set a (.bq (bV L))) aZ ab /\ bA aZ (qk a7 dn) is) ?_ ?_ ?_
 ·cbv
  refine aG (cD vL rfl) ?_
  refine iE Cq (.cn (jh _) ⟨T, [], rfl, ⟨R.set (by lia), .refl, .refl⟩, ?_⟩)
  rw [List.length_eq_zero_iff.mp (Nat.le_zero.mp (LV []))]; trivial
 ·rintro dn e td _ ab hm ⟨aZ, is, rfl, ts, ht⟩
  have LW := ts.fr.old _ _ (aE (o := .bq (bV L)) Cq) (.inr (by lia))
  have jm := ts.ext.size
  have p7 := Nat.le_trans (eC hm) hl
  have zG : (dn ++ [e]).length = dn.length + 1 := List.length_append
  have h4 := ts.tr.aO
  have skip : qk a7 [e] = [] -> d8 (.j6 a (bV L)) ((bV L).map (·.1)) ab /\ jq (fun e : En => .str e.name) (.j6 a (bV L)) ((bV L).map (·.1)) L (fun dn _ acc ab => ∃ aZ is, acc = dt is /\ TS dn.length T (σ.set a (.bq (bV L))) aZ ab /\ bA aZ (qk a7 dn) is) (.j6 a (bV L)) ((bV L).map (·.1)) (td.map fun e => .str e.name) (dt is) ab := fun h0 =>
   ⟨LW, .next hm ⟨aZ, is, rfl, zG ▸ ts.up (Nat.le_succ _), by rw [xP, h0, List.append_nil]; exact ht⟩⟩
  cbv
  refine aj (fun e1 => ?_) (fun e1 => ?_)
  ·have e1 : e.name = 217 \/ e.name = 218 := by simpa using e1
   cbv
   refine aj (fun e2 => ?_) (fun e2 => ?_)
   ·have e2 : a7 = 1 \/ a7 = 3 \/ a7 = 4 \/ a7 = 5 := by simpa using e2
    cbv
    refine bT (row := .ae [.int 3, .str e.name, .int 0]) (d := d) ts.tr (by lia) (eW.of rfl (by decide) (by decide)) fun aD ah i gm hi _ _ => ?_
    have h1 : qk a7 [e] = [e.name] := by unfold qk pq; rw [if_pos e2, List.filter_cons_of_pos (by simpa using e1)]; rfl
    exact ⟨gm.fr.old _ _ LW (.inr (by lia)), .next hm ⟨aD, is ++ [i], de .., zG ▸ ts.trans gm, by rw [xP, h1]; exact (ht.ext gm.ext).ze hi⟩⟩
   ·exact skip (if_neg (by simpa using e2))
  ·exact cY (decide_eq_false e1) (skip (by unfold qk pq; rw [List.filter_cons_of_neg (by simpa using e1)]; split <;> rfl))
 ·rintro _ ab ⟨aZ, is, rfl, ts, ht⟩
  have LW := ts.fr.old _ _ (aE (o := .bq (bV L)) Cq) (.inr (by lia))
  have jm := ts.ext.size
  refine ⟨?_, ⟨LW, ?_⟩⟩
  ·have := ht.len
   have h2 := LV L
   unfold dt; rw [List.length_map]; lia
  ·refine q aZ (ab.set a (.dict .str (bV L))) is ⟨ts.tr.set (by lia), ts.ext.up hl, ?_, fun b o h g => ?_⟩ ht
   ·rw [List.length_set]; have := ts.fr.len; rw [List.length_set] at this; exact this
   ·by_cases e : b = a
    ·rw [e] at h ⊢; rw [Cq] at h; rw [<- h]; exact aE LW
    ·rw [au fun g => e g.symm]; exact ts.fr.old b o (by rw [au fun g => e g.symm]; exact h) g
end
end
variable {w f : Int} {Φ : PF}
section
section
variable {up : Int}
theorem qx : ∀ {l : List Nat}, (dt l).all (V.a5 4) = true
 | [] => rfl
 | _ :: _ => (List.all_cons ..).trans (Bool.and_eq_true_iff.mpr ⟨rfl, qx⟩)
theorem nE {a b : Nat} {x y : List V} (ha : σ[a]? = some (.list x)) (hb : σ[b]? = some (.list y)) (nx : x.all (V.a5 4) = true) (ny : y.all (V.a5 4) = true) : vD b σ .eq (.ref a) (decide (x = y)) := .uc ha hb nx ny
theorem q8 {α : Type} {c : Cl} {g : E} {A B : Env -> ag -> PF -> Prop} {ρ : Env} (R : α -> Env) (J : α -> ag -> Prop) (h : (∀ x σ', J x σ' -> Φ .next (R x) σ') -> wE c g ρ σ (IU A B ρ Φ)) (k : ∀ x σ', J x σ' -> Φ .next (R x) σ') : wE c g ρ σ (IU A B ρ Φ) := h k
theorem Ly {P : Prop} [Decidable P] {v : Bool -> Prop} (h : v (decide P)) : (decide P = true -> v true) /\ (decide P = false -> v false) := ⟨fun e => e ▸ h, fun e => e ▸ h⟩
theorem FQ {e0 e2 e5 ea eb ec : Option V} (R : TR T σ) (hz : T.size + 20 < 999990) (hw : dc σ r (L :: Ls)) (s9 : (L.map (·.name)).Nodup) (hl : L.length <= 10) (w0 : 0 <= w) (w7 : w < 7) (f0 : 0 <= f) (f6 : f < 6)
  (q : ∀ T' σ' is tl w f, TS 10 T σ T' σ' -> bA T' (qk a7 L) is -> σ'[tl]? = some (.list (dt is)) -> σ.length <= tl -> 0 <= w -> w < 7 -> 0 <= f -> f < 6 -> (w = 5 -> is ≠ []) -> (w = 6 -> 0 <= up) -> (f = 1 \/ f = 2 -> a7 ≠ 4 /\ a7 ≠ 5 /\ w <= 2) ->
   WX (cl (d + 1)) bz.body.tl.tl.tl.tl.tl.tl.tl.tl.tl.tl [e0, some (.ref 4), e2, some (.int s), some (.ref r), e5, some (.int a7), some (.int up), some (.int w), some (.int f), ea, eb, ec, some (.ref tl), none, none, none, none, none, none, none, none, none, none, none, none, none, none, none, none, none, none, none] σ' Φ) :
  WX (cl (d + 1)) bz.body.tl.tl.tl.tl.tl.tl [e0, some (.ref 4), e2, some (.int s), some (.ref r), e5, some (.int a7), some (.int up), some (.int w), some (.int f), ea, eb, ec, none, none, none, none, none, none, none, none, none, none, none, none, none, none, none, none, none, none, none, none] σ Φ := by
 refine FR R hz hw s9 hl rfl fun aZ ab is ts ht => ?_
 refine q8 (fun w => [e0, some (.ref 4), e2, some (.int s), some (.ref r), e5, some (.int a7), some (.int up), some (.int w), some (.int f), ea, eb, ec, some (.ref ab.length), none, none, none, none, none, none, none, none, none, none, none, none, none, none, none, none, none, none, none]) (fun w σ' => aV (ab ++ [.list (dt is)]) σ' /\ 0 <= w /\ w < 7 /\ (w = 5 -> is ≠ [])) (fun kk => ?_) ?_
 ·cbv
  refine aj (fun e => ?_) (fun e => ?_)
  ·cbv
   refine dD (nE (aH (ay)) (ay) qx rfl) ?_
   refine aj (fun e2 => ?_) (fun e2 => ?_)
   ·cbv
    exact kk 1 _ ⟨.push, by decide, by decide, fun e => absurd e (by decide)⟩
   ·exact kk w _ ⟨.push, w0, w7, fun _ g => e2 (by rw [g]; rfl)⟩
  ·refine cY (decide_eq_false e) ?_
   exact kk w _ ⟨.refl, w0, w7, fun g => absurd g e⟩
 rintro w ah ⟨K, w0, w7, w5⟩
 refine q8 (fun w => [e0, some (.ref 4), e2, some (.int s), some (.ref r), e5, some (.int a7), some (.int up), some (.int w), some (.int f), ea, eb, ec, some (.ref ab.length), none, none, none, none, none, none, none, none, none, none, none, none, none, none, none, none, none, none, none]) (fun w σ' => σ' = ah /\ 0 <= w /\ w < 7 /\ (w = 5 -> is ≠ []) /\ (w = 6 -> 0 <= up)) (fun kk => ?_) ?_
 ·cbv
  refine aj (fun e => ?_) (fun e => ?_)
  ·cbv
   refine aj (fun e2 => ?_) (fun e2 => ?_)
   ·cbv
    exact kk _ _ ⟨rfl, by decide, by decide, (fun e => absurd e (by decide)), fun e => absurd e (by decide)⟩
   ·exact kk w _ ⟨rfl, w0, w7, w5, fun _ => by lia⟩
  ·refine cY (decide_eq_false e) ?_
   exact kk w _ ⟨rfl, w0, w7, w5, fun g => absurd g e⟩
 rintro w aA ⟨rfl, w0, w7, w5, w6⟩
 refine q8 (fun f => [e0, some (.ref 4), e2, some (.int s), some (.ref r), e5, some (.int a7), some (.int up), some (.int w), some (.int f), ea, eb, ec, some (.ref ab.length), none, none, none, none, none, none, none, none, none, none, none, none, none, none, none, none, none, none, none]) (fun f σ' => σ' = aA /\ 0 <= f /\ f < 6 /\ (f = 1 \/ f = 2 -> a7 ≠ 4 /\ a7 ≠ 5 /\ w <= 2)) (fun kk => ?_) ?_
 ·cbv
  refine aj (fun e => ?_) (fun e => ?_)
  ·have e : f = 1 \/ f = 2 := by simpa using e
   cbv
   refine aj (fun e2 => ?_) (fun e2 => ?_)
   ·refine iI (decide_eq_true e2) ?_
    cbv
    exact kk _ _ ⟨rfl, by decide, by decide, fun e => by lia⟩
   ·have e2 : ¬(a7 = 4 \/ a7 = 5) := by simpa using e2
    cbv
    refine aj (fun e3 => ?_) (fun e3 => ?_)
    ·cbv
     exact kk _ _ ⟨rfl, by decide, by decide, fun e => by lia⟩
    ·exact kk f _ ⟨rfl, f0, f6, fun _ => by lia⟩
  ·have e1 : ¬(f = 1 \/ f = 2) := by simpa using e
   refine cY (decide_eq_false e) ?_
   exact kk f _ ⟨rfl, f0, f6, fun g => absurd g e1⟩
 rintro f aA ⟨rfl, f0, f6, f1⟩
 have K' : aV ab aA := aV.push.trans K
 exact q aZ aA is _ w f ⟨ts.tr.keep K', ts.ext, ts.fr.trans K'.fr⟩ ht (K.old _ _ ay) ts.fr.len w0 w7 f0 f6 w5 w6 f1
end
end
variable {is kB : List Nat}
section
structure KJ (T : cN) (s ow k j : Nat) : Prop where
 own : T.ak[ow]? = some (.ae [.int 14, .int s])
 tK : 15 < ow
 kr : ∃ i : Nat, T.ak[k]? = some (.ae [.int 10, .int i]) /\ T.ao[i]? = some (.int ow)
 jr : ∃ i : Nat, T.ak[j]? = some (.ae [.int 10, .int i]) /\ T.ao[i]? = some (.int k)
 lk : ow < k
 lj : k < j
def gy (T : cN) (w : Int) (ow k j : Nat) (is : List Nat) (up : Int) (over : Nat) : Prop :=
 (w = 0 /\ over = ow) \/ (w = 1 /\ over = k) \/ (w = 2 /\ over = j) \/ (w = 3 /\ T.ak[over]? = some (.ae [.int 7, .ae [.int ow, .int k]])) \/ (w = 4 /\ T.ak[over]? = some (.ae [.int 7, .ae [.int k, .int ow]])) \/ (w = 5 /\ Un T over (sd is)) \/ (w = 6 /\ ∃ u : Nat, up = u /\ T.ak[over]? = some (.ae [.int 14, .int u]))
section
variable {tl : Nat} {up : Int}
theorem KJ.ext {c ow : Nat} (h : KJ T s ow k j) (x : bb c T T') : KJ T' s ow k j :=
 ⟨x.row h.own, h.tK, h.kr.imp fun _ p => ⟨x.row p.1, x.bound p.2⟩, h.jr.imp fun _ p => ⟨x.row p.1, x.bound p.2⟩, h.lk, h.lj⟩
theorem Un.ext {c u : Nat} {l : List Int} (h : Un T u l) (x : bb c T T') : Un T' u l := h.imp id (Or.imp id fun ⟨a, b⟩ => ⟨a, x.row b⟩)
theorem gy.ext {c ow over : Nat} (h : gy T w ow k j is up over) (x : bb c T T') : gy T' w ow k j is up over :=
 h.imp id (Or.imp id (Or.imp id (Or.imp (And.imp id x.row) (Or.imp (And.imp id x.row) (Or.imp (And.imp id fun g => g.ext x) (And.imp id fun ⟨u, a, b⟩ => ⟨u, a, x.row b⟩))))))
theorem bA.mem : ∀ {xs is : List Nat}, bA T xs is -> ∀ i ∈ is, ∃ x, T.ak[i]? = some (.ae [.int 3, .str x, .int 0]) /\ x ∈ xs
 | [], [], _, _, h => nomatch h
 | x :: xs, j :: is, h, i, hi => by
  rcases List.mem_cons.mp hi with rfl | hi
  ·exact ⟨x, h.1, .head _⟩
  ·obtain ⟨y, h1, h2⟩ := bA.mem h.2 i hi
   exact ⟨y, h1, .tail _ h2⟩
theorem lz {bs : List V} {b : V} : (bs ++ [b])[bs.length]? = some b := by rw [List.getElem?_append_right (Nat.le_refl _), Nat.sub_self]; rfl
theorem FP {e0 e2 e4 e5 e6 e9 ea eb ec : Option V} (R : TR T σ) (hz : T.size + 40 < 999990) (hs : T.ak[s]? = some (.ae (.int a :: ra))) (pG : 15 < s) (hu : up = -1 \/ ∃ u : Nat, up = u /\ u < s /\ 15 < u) (w0 : 0 <= w) (w7 : w < 7) (ht : bA T kB is) (hl : kB.length <= 10) (hi : σ[tl]? = some (.list (dt is))) (Ow : 10 < tl) (w6 : w = 6 -> 0 <= up)
  (q : ∀ T' σ' ow k j fr over, TS 20 T σ T' σ' -> KJ T' s ow k j -> gy T' w ow k j is up over -> over < T'.ak.length ->
   WX (cl (d + 4)) bz.body.tl.tl.tl.tl.tl.tl.tl.tl.tl.tl.tl.tl.tl.tl.tl [e0, some (.ref 4), e2, some (.int s), e4, e5, e6, some (.int up), some (.int w), e9, ea, eb, ec, some (.ref tl), some (.int (ow : Nat)), some (.int (k : Nat)), some (.int (j : Nat)), some (.int (fr : Nat)), some (.int (over : Nat)), none, none, none, none, none, none, none, none, none, none, none, none, none, none] σ' Φ) :
  WX (cl (d + 4)) bz.body.tl.tl.tl.tl.tl.tl.tl.tl.tl.tl [e0, some (.ref 4), e2, some (.int s), e4, e5, e6, some (.int up), some (.int w), e9, ea, eb, ec, some (.ref tl), none, none, none, none, none, none, none, none, none, none, none, none, none, none, none, none, none, none, none] σ Φ := by
 have h4 := R.aO
 cbv
 refine bT (row := .ae [.int 14, .int s]) (d := d + 3) R (by lia) (eW.of rfl (by decide) (by decide)) fun aZ ab ow A7 a7 _ _ => ?_
 have zD := A7.ext.size
 have tK := A7.tr.new a7 (by decide) fun h => absurd h (by decide)
 cbv
 refine aP (b := (ow : Nat)) (d := d + 2) A7.tr (by lia) (by have := A7.tr.lt a7; lia) fun aD ah k gm hk Ph UC _ => ?_
 have O9 := gm.ext.size
 cbv
 refine aP (b := (k : Nat)) (d := d + 2) gm.tr (by lia) (by have := gm.tr.lt Ph; lia) fun eP aA j gG hj TN UD _ => ?_
 have Tq := gG.ext.size
 have kj : KJ eP s ow k j := ⟨(gm.ext.trans gG.ext).row a7, tK, ⟨_, gG.ext.row Ph, gG.ext.bound (by rw [UC]; exact lz)⟩, ⟨_, TN, by rw [UD]; exact lz⟩, by have := A7.tr.lt a7; lia, by have := gm.tr.lt Ph; lia⟩
 have t3 := A7.trans (gm.trans gG)
 have h4 := gG.tr.aO
 have UU : ∀ Q : PQ, (∀ dj bc (fr : Nat), TS 1 eP aA dj bc -> (w = 6 -> ∃ u : Nat, up = u /\ dj.ak[fr]? = some (.ae [.int 14, .int u])) -> fr < dj.ak.length -> Q (.int fr) bc) ->
   WE (cl (d + 4)) [e0, some (.ref 4), e2, some (.int s), e4, e5, e6, some (.int up), some (.int w), e9, ea, eb, ec, some (.ref tl), some (.int (ow : Nat)), some (.int (k : Nat)), some (.int (j : Nat)), none, none, none, none, none, none, none, none, none, none, none, none, none, none, none, none] (.ite (.aB .ge (.aa 7) (.lit (.int 0))) (.aM (.aa 1) 6 (.cons (.ae (.cons (.lit (.int 14)) (.cons (.aa 7) .nil))) .nil)) (.aa 14)) aA Q := fun Q q => by
  cbv
  refine aj (fun e => ?_) (fun e => ?_)
  ·obtain ⟨u, rfl, Tx, QX⟩ := hu.resolve_left fun e2 => by lia
   cbv
   refine bT (row := .ae [.int 14, .int u]) (d := d + 3) gG.tr (by lia) (eW.of rfl (by decide) (by decide)) fun dj bc fr cH zH _ _ => ?_
   exact q dj bc fr cH (fun _ => ⟨u, rfl, zH⟩) (cH.tr.lt zH)
  ·cbv
   exact q eP aA ow (gG.tr.zI.up (by decide)) (fun g => absurd (w6 g) (by lia)) (gG.tr.lt kj.own)
 refine UU _ fun dj bc fr cH zH J0 => ?_
 have Tp := cH.ext.size
 have h4 := cH.tr.aO
 cbv
 refine bT (row := .ae [.int 7, .ae [.int ow, .int k]]) (d := d + 3) cH.tr (by lia) (eW.of rfl (by decide) (by decide)) fun lD bg m1 dZ I7 _ _ => ?_
 have To := dZ.ext.size
 have h4 := dZ.tr.aO
 cbv
 refine bT (row := .ae [.int 7, .ae [.int k, .int ow]]) (d := d + 3) dZ.tr (by lia) (eW.of rfl (by decide) (by decide)) fun Nb iy m2 rA JY _ _ => ?_
 have Tn := rA.ext.size
 cbv
 have t6 := t3.trans (cH.trans (dZ.trans rA))
 refine l9 (d := d + 1) rA.tr (by lia) (ba (t6.fr.old _ _ hi (.inr Ow))) (ht.ext t6.ext) (by lia) fun xF ix u rz _ _ Rw => ?_
 cbv
 have t7 := t6.trans rz
 have e7 := cH.ext.trans (dZ.ext.trans (rA.ext.trans rz.ext))
 have Nr := kj.ext e7
 have ts : TS 20 T σ xF ix := ⟨t7.tr, t7.ext.up (by lia), t7.fr⟩
 have q := fun over => q xF ix ow k j fr over ts Nr
 have Pb : u < xF.ak.length := Rw.lt rz.tr fun p hp => ((ht.ext t7.ext).mem p hp).elim fun _ e => rz.tr.lt e.1
 obtain rfl | rfl | rfl | rfl | rfl | rfl | rfl : w = 0 \/ w = 1 \/ w = 2 \/ w = 3 \/ w = 4 \/ w = 5 \/ w = 6 := gj (k := 0) 6 (by lia) (by lia)
 ·exact q ow (.inl ⟨rfl, rfl⟩) (t7.tr.lt Nr.own)
 ·exact q k (.inr (.inl ⟨rfl, rfl⟩)) (Nr.kr.elim fun _ h => t7.tr.lt h.1)
 ·exact q j (.inr (.inr (.inl ⟨rfl, rfl⟩))) (Nr.jr.elim fun _ h => t7.tr.lt h.1)
 ·have h := (rA.ext.trans rz.ext).row I7
  exact q m1 (.inr (.inr (.inr (.inl ⟨rfl, h⟩)))) (t7.tr.lt h)
 ·have h := rz.ext.row JY
  exact q m2 (.inr (.inr (.inr (.inr (.inl ⟨rfl, h⟩))))) (t7.tr.lt h)
 ·exact q u (.inr (.inr (.inr (.inr (.inr (.inl ⟨rfl, Rw⟩)))))) Pb
 ·obtain ⟨v, e, h⟩ := zH rfl
  have h := (dZ.ext.trans (rA.ext.trans rz.ext)).row h
  exact q fr (.inr (.inr (.inr (.inr (.inr (.inr ⟨rfl, v, e, h⟩)))))) (t7.tr.lt h)
end
end
variable {over : Nat}
section
structure PM (T : cN) (s w me mine over : Nat) : Prop where
 Rh : ∃ i : Nat, T.ak[me]? = some (.ae [.int 10, .int i]) /\ T.ao[i]? = some (.int over)
 EJ : T.ak[mine]? = some (.ae [.int 15, .int s, .int me])
 pI : 15 < mine
 wr : ∃ i : Nat, T.ak[w]? = some (.ae [.int 10, .int i]) /\ T.ao[i]? = some (.int (-1))
 ws : w ≠ s
def Gb (T : cN) (u t y : Nat) : Prop := ∃ ps, T.ak[u]? = some (.ae [.int 6, .ae ps]) /\ V.int t ∈ ps /\ V.int y ∈ ps /\ (∀ p : Nat, V.int p ∈ ps -> p = t \/ p = y) /\ ps.length <= 2
def M6 (T : cN) (f : Int) (s w me mine x : Nat) : Prop :=
 (f = 0 /\ x = mine) \/ ((f = 1 /\ Gb T x mine 5) \/ (f = 2 /\ Gb T x mine 7)) \/ (f = 3 /\ x = 5) \/ (f = 4 /\ 15 < x /\ ∃ l : Nat, l ≠ me /\ T.ak[x]? = some (.ae [.int 15, .int s, .int l])) \/ (f = 5 /\ 15 < x /\ T.ak[x]? = some (.ae [.int 15, .int w, .int me]))
section
variable {tl : Nat} {up : Int}
theorem PM.ext {c w : Nat} (h : PM T s w me mine over) (x : bb c T T') : PM T' s w me mine over :=
 ⟨h.Rh.imp fun _ p => ⟨x.row p.1, x.bound p.2⟩, x.row h.EJ, h.pI, h.wr.imp fun _ p => ⟨x.row p.1, x.bound p.2⟩, h.ws⟩
theorem Gb.ext {c u t y : Nat} (h : Gb T u t y) (x : bb c T T') : Gb T' u t y := h.imp fun _ p => ⟨x.row p.1, p.2⟩
theorem M6.ext {c w x : Nat} (h : M6 T f s w me mine x) (X : bb c T T') : M6 T' f s w me mine x :=
 h.imp id (Or.imp (Or.imp (And.imp id fun g => g.ext X) (And.imp id fun g => g.ext X)) (Or.imp id (Or.imp (And.imp id (And.imp id fun ⟨l, a, b⟩ => ⟨l, a, X.row b⟩)) (And.imp id (And.imp id X.row)))))
theorem AW {u t y : Nat} (hu : Un T u (sd [t, y])) (ty : t ≠ y) : Gb T u t y := by
 have ht : (t : Int) ∈ sd [t, y] := c9.mpr ⟨t, .head _, rfl⟩
 have hy : (y : Int) ∈ sd [t, y] := c9.mpr ⟨y, .tail _ (.head _), rfl⟩
 rcases hu with ⟨h, _⟩ | h | ⟨_, h⟩
 ·rw [h] at ht; cases ht
 ·rw [h] at ht hy
  have e1 := List.mem_singleton.mp ht
  have e2 := List.mem_singleton.mp hy
  lia
 ·refine ⟨_, h, gp.mpr ht, gp.mpr hy, fun p hp => ?_, ?_⟩
  ·obtain ⟨q, hq, e⟩ := c9.mp (gp.mp hp)
   rw [<- Int.ofNat.inj e]
   rcases List.mem_cons.mp hq with rfl | hq
   ·exact .inl rfl
   ·exact .inr (List.mem_singleton.mp hq)
  ·unfold sd; rw [List.length_map, List.length_mergeSort, List.length_map]
   exact eO [t, y] []
theorem fX {t : Nat} (h : T.ak[t]? = some (.ae (.int 15 :: ra))) (xj : 15 < t) : cS T t 15 :=
 ⟨by simp only [List.mem_cons, List.not_mem_nil, or_false]; lia, by decide, by decide, by decide, _, h, fun h => absurd h (by decide)⟩
theorem jL (R : TR T σ) {y : Nat} (hy : y = 5 \/ y = 7) : cS T y 1 := by
 rcases hy with rfl | rfl
 ·exact ⟨by decide, by decide, by decide, by decide, _, R.bN (t := 5) rfl, fun h => absurd h (by decide)⟩
 ·exact ⟨by decide, by decide, by decide, by decide, _, R.bN (t := 7) rfl, fun h => absurd h (by decide)⟩
theorem nK {y : Nat} {bO : V} (R : TR T σ) (hz : T.size < 1000000) (iM : lF bO [.int mine, .int y] σ) (hm : T.ak[mine]? = some (.ae (.int 15 :: ra))) (pI : 15 < mine) (hy : y = 5 \/ y = 7)
  (q : ∀ T' σ' (u : Nat), TS 1 T σ T' σ' -> Gb T' u mine y -> Q (.int u) σ') : cl (d + 3) 14 [.ref 4, bO] σ Q := by
 have pt := fX hm pI
 have py := jL R hy
 refine gF R hz iM (fl := [mine, y]) (.cons (qs := [mine]) pt.gH (.cons (qs := [y]) py.gH .nil)) (Nat.le_of_ble_eq_true rfl) (fun p hp => ?_) fun T' σ' u ts hb _ hu => q T' σ' u ts (AW hu (by lia))
 rcases List.mem_cons.mp hp with rfl | hp
 ·exact ⟨15, pt, fun p' _ e => by have e : (p' : Int) = -1 := e; lia⟩
 ·rw [List.mem_singleton.mp hp]
  exact ⟨1, py, fun p' _ e => by have e : (p' : Int) = -1 := e; lia⟩
theorem FO {e0 e2 e4 e5 e6 e7 e8 ea eb ec ed ef eg eh : Option V} (R : TR T σ) (hz : T.size + 40 < 999990) (pG : 15 < s) (Rz : s < T.ak.length) (f0 : 0 <= f) (f6 : f < 6) (a7 : ow < T.ak.length) (Nv : over < T.ak.length)
  (q : ∀ T' σ' (w me mine x : Nat) g1 g2, TS 20 T σ T' σ' -> PM T' s w me mine over -> M6 T' f s w me mine x ->
   WX (cl (d + 4)) bz.body.tl.tl.tl.tl.tl.tl.tl.tl.tl.tl.tl.tl.tl.tl.tl.tl.tl.tl.tl.tl [e0, some (.ref 4), e2, some (.int s), e4, e5, e6, e7, e8, some (.int f), ea, eb, ec, ed, some (.int (ow : Nat)), ef, eg, eh, some (.int (over : Nat)), some (.int me), some (.int mine), g1, g2, some (.int x), none, none, none, none, none, none, none, none, none] σ' Φ) :
  WX (cl (d + 4)) bz.body.tl.tl.tl.tl.tl.tl.tl.tl.tl.tl.tl.tl.tl.tl.tl [e0, some (.ref 4), e2, some (.int s), e4, e5, e6, e7, e8, some (.int f), ea, eb, ec, ed, some (.int (ow : Nat)), ef, eg, eh, some (.int (over : Nat)), none, none, none, none, none, none, none, none, none, none, none, none, none, none] σ Φ := by
 cbv
 refine aP (b := (over : Nat)) (d := d + 2) R (by lia) (by lia) fun aZ ab me A7 zF E9 PH _ => ?_
 have zD := A7.ext.size
 have h4 := A7.tr.aO
 cbv
 refine bT (row := .ae [.int 15, .int s, .int me]) (d := d + 3) A7.tr (by lia) (eW.of rfl (by decide) (by decide)) fun aD ah mine gm p6 _ _ => ?_
 have O9 := gm.ext.size
 have pI := gm.tr.new p6 (by decide) fun h => absurd h (by decide)
 cbv
 refine aP (b := -1) (d := d + 2) gm.tr (by lia) (by have := gm.tr.fH; lia) fun eP aA w gG hw TL Uz _ => ?_
 have Tq := gG.ext.size
 have h4 := gG.tr.aO
 cbv
 have Q1 := A7.trans gm
 have DC := Q1.trans gG
 refine aP (b := (ow : Nat)) (d := d + 2) gG.tr (by lia) (by have := DC.ext.ak.length_le; lia) fun dj bc l cH hl RA _ _ => ?_
 have Tp := cH.ext.size
 cbv
 refine bT (row := .ae [.int 15, .int s, .int l]) (d := d + 3) cH.tr (by lia) (eW.of rfl (by decide) (by decide)) fun lD bg ap dZ NH _ _ => ?_
 have To := dZ.ext.size
 have Vb := dZ.tr.new NH (by decide) fun h => absurd h (by decide)
 cbv
 have RZ := gG.ext.trans (cH.ext.trans dZ.ext)
 refine nK (y := 5) (d := d + 1) dZ.tr.push (by lia) (ba ay) (RZ.row p6) pI (.inl rfl) fun Nb iy u1 rA TA => ?_
 have Tn := rA.ext.size
 cbv
 refine nK (y := 7) (d := d + 1) rA.tr.push (by lia) (ba ay) (rA.ext.row (RZ.row p6)) pI (.inr rfl) fun xF ix u2 rz Tz => ?_
 have Vu := rz.ext.size
 have h4 := rz.tr.aO
 cbv
 refine bT (row := .ae [.int 15, .int w, .int me]) (d := d + 3) rz.tr (by lia) (eW.of rfl (by decide) (by decide)) fun JJ gA wm JR Rr _ _ => ?_
 have Sx := JR.tr.new Rr (by decide) fun h => absurd h (by decide)
 cbv
 have Qd := rA.ext.trans (rz.ext.trans JR.ext)
 have Qf := cH.ext.trans (dZ.ext.trans Qd)
 have Qg := gG.ext.trans Qf
 have pm : PM JJ s w me mine over := ⟨⟨_, (gm.ext.trans Qg).row E9, (gm.ext.trans Qg).bound (by rw [PH]; exact lz)⟩, Qg.row p6, pI, ⟨_, Qf.row TL, Qf.bound (by rw [Uz]; exact lz)⟩, by have := Q1.ext.ak.length_le; lia⟩
 have fr : TS 20 T σ JJ gA := ⟨JR.tr, ((DC.ext.trans (cH.ext.trans (dZ.ext.trans Qd))).up (by decide)), DC.fr.trans (cH.fr.trans (dZ.fr.trans (aV.push.fr.trans (rA.fr.trans (aV.push.fr.trans (rz.fr.trans JR.fr))))))⟩
 have Uh : l ≠ me := by have := gG.tr.lt ((gm.ext.trans gG.ext).row E9); lia
 have q := fun x => q JJ gA w me mine x (some (.int w)) (some (.int ap)) fr pm
 obtain rfl | rfl | rfl | rfl | rfl | rfl : f = 0 \/ f = 1 \/ f = 2 \/ f = 3 \/ f = 4 \/ f = 5 := gj (k := 0) 5 (by lia) (by lia)
 ·exact q mine (.inl ⟨rfl, rfl⟩)
 ·exact q u1 (.inr (.inl (.inl ⟨rfl, TA.ext (rz.ext.trans JR.ext)⟩)))
 ·exact q u2 (.inr (.inl (.inr ⟨rfl, Tz.ext JR.ext⟩)))
 ·exact q 5 (.inr (.inr (.inl ⟨rfl, rfl⟩)))
 ·exact q ap (.inr (.inr (.inr (.inl ⟨rfl, Vb, l, Uh, Qd.row NH⟩))))
 ·exact q wm (.inr (.inr (.inr (.inr ⟨rfl, Sx, Rr⟩))))
end
end
variable {x : Nat} {nm : Bool}
section
noncomputable def aX (nm : Bool) (opt f a7 : Int) : Bool := !nm && (decide (opt < 2) && (decide (f = 0) || (decide (f < 3) && decide (a7 < 9))))
noncomputable def gb (f : Int) : Int := if f = 1 then 8 else if f = 2 then 32 else 0
noncomputable def dg (on : Bool) (w opt ro f : Int) (Ls : List (List En)) : List Int :=
 if on then dG (decide (w = 0 \/ w = 3)) (decide (w = 0)) opt ro (gb f) Ls ++ (if decide (ro = 2) then [4] else []) ++ (if decide (opt = 1) && !decide (ro = 1) then [3] else []) else []
noncomputable def cp (l : List Int) : List Int := [3, 4, 5].filter fun c => decide (c ∈ l)
section
variable {tl : Nat} {S : cW} {cc : Cl} {ρ : Env}
theorem Qa {a b : E} {x y : Int} (ha : WV cc ρ a σ (.int x)) (hb : WV cc ρ b σ (.int y)) : WV cc ρ (.aB .ne a b) σ (.bool (!decide (x = y))) := fun _ q => ha _ (hb _ q)
theorem Qb {a b : E} {x y : Int} (ha : WV cc ρ a σ (.int x)) (hb : WV cc ρ b σ (.int y)) : WV cc ρ (.aB .lt a b) σ (.bool (decide (x < y))) := fun _ q => ha _ (hb _ q)
theorem NU {a : E} {b : Bool} (ha : WV cc ρ a σ (.bool b)) : WV cc ρ (.not a) σ (.bool (!b)) := fun _ q => ha _ q
theorem q9 {g : E} {b : Bool} {c : Int} (hg : WV cc ρ g σ (.bool b)) (q : Q (.ref σ.length) (σ ++ [.list ((if b then [c] else []).map .int)])) : WE cc ρ (.ite g (.list (.cons (.lit (.int c)) .nil)) (.list .nil)) σ Q := by
 refine hg _ ?_
 cases b
 ·exact q
 ·exact q
theorem BO {c : Int} {l : List Int} (h : σ[n]? = some (.list (l.map .int))) : vD n σ .bt (.int c) (decide (c ∈ l)) := by
 rw [<- decide_eq_decide.mpr gp]
 exact .inl h rfl (List.all_eq_true.mpr fun x hx => by obtain ⟨y, _, rfl⟩ := List.mem_map.mp hx; rfl)
theorem DO {l : List Int} {dn : Nat} (h : σ[dn]? = some (.list (l.map .int))) (Ti : ∀ v, oh (ρ.set 32 (some v)) 26 fun x => x = .ref dn) (hv : ∀ v, oh (ρ.set 32 (some v)) 32 fun x => x = v) (q : Q (.ref σ.length) (σ ++ [.list ((cp l).map .int)])) :
  WE cc ρ (.comp (.aa 32) 32 (.ae (.cons (.lit (.int 3)) (.cons (.lit (.int 4)) (.cons (.lit (.int 5)) .nil)))) (.cons (.aB .bt (.aa 32) (.aa 26)) .nil)) σ Q := by
 refine c6.cv .int (.seq (.ae [.int 3, .int 4, .int 5])) [.int 3, .int 4, .int 5] [3, 4, 5] (fun dn => (dn.filter fun c => decide (c ∈ l)).map .int) (fun _ _ ab => σ = ab) ?_ ?_ ?_
 ·cbv
  exact .cn rfl rfl rfl
 ·rintro _ c _ _ Fo rfl
  refine dM ?_ _ _ (hv _)
  rintro _ rfl
  refine dM ?_ _ _ (Ti _)
  rintro _ rfl
  refine dD (BO h) ?_
  refine aj (fun e => ?_) (fun e => ?_)
  ·refine dM ?_ _ _ (hv _)
   rintro _ rfl
   exact ⟨rfl, .next Fo (uS (decide_eq_true e)) rfl⟩
  ·exact ⟨rfl, .skip Fo (yD fun h => e (of_decide_eq_true h)) rfl⟩
 ·rintro _ rfl
  have J0 : (cp l).length <= 3 := List.length_filter_le _ _
  exact ⟨by rw [List.length_map]; show (cp l).length <= _; lia, q⟩
theorem Kb {e : E} {v : V} (h : WV cc ρ e σ v) (q : Q v σ) : WE cc ρ e σ Q := h _ q
theorem IT {a b x : Int} : decide (V.int x ∈ [V.int a, V.int b]) = decide (x = a \/ x = b) := decide_eq_decide.mpr (by simp)
theorem CJ (f0 : 0 <= f) (f6 : f < 6) : yr (.ae [.int 0, .int 8, .int 32, .int 0, .int 0, .int 0]) (.int f) = some (.int (gb f)) := by
 obtain rfl | rfl | rfl | rfl | rfl | rfl : f = 0 \/ f = 1 \/ f = 2 \/ f = 3 \/ f = 4 \/ f = 5 := gj (k := 0) 5 (by lia) (by lia)
 all_goals rfl
theorem FN {e7 ed ef eg eh g1 g2 : Option V} (R : RR T 14 m S σ) (zF : T.ak[me]? = some (.ae [.int 10, .int pos])) (hw : dc σ r Ls) (hg : pv Ls) (f0 : 0 <= f) (f6 : f < 6)
  (q : ∀ σ' dn wl ll, aV σ σ' -> σ.length <= wl -> σ.length <= ll -> σ'[wl]? = some (.list ((cp (dg (aX nm opt f a7 && S.aw) w opt ro f Ls)).map .int)) -> σ'[ll]? = some (.list ((if aX nm opt f a7 && (S.aw && nul) then [15] else []).map .int)) ->
   WX (cl (d + 4)) bz.body.tl.tl.tl.tl.tl.tl.tl.tl.tl.tl.tl.tl.tl.tl.tl.tl.tl.tl.tl.tl.tl.tl.tl.tl.tl.tl.tl [some (.ref 3), some (.ref 4), some (.ref 14), some (.int s), some (.ref r), some (.bool nul), some (.int a7), e7, some (.int w), some (.int f), some (.int opt), some (.int ro), some (.bool nm), ed, some (.int (ow : Nat)), ef, eg, eh, some (.int (over : Nat)), some (.int me), some (.int mine), g1, g2, some (.int x), some (dh (.int pos) over (.int (if nm then me else -1)) (.int x) opt ro), some (.bool (aX nm opt f a7)), some (.ref dn), some (.ref wl), some (.ref ll), some (.int S.az.length), none, none, none] σ' Φ) :
  WX (cl (d + 4)) bz.body.tl.tl.tl.tl.tl.tl.tl.tl.tl.tl.tl.tl.tl.tl.tl.tl.tl.tl.tl.tl [some (.ref 3), some (.ref 4), some (.ref 14), some (.int s), some (.ref r), some (.bool nul), some (.int a7), e7, some (.int w), some (.int f), some (.int opt), some (.int ro), some (.bool nm), ed, some (.int (ow : Nat)), ef, eg, eh, some (.int (over : Nat)), some (.int me), some (.int mine), g1, g2, some (.int x), none, none, none, none, none, none, none, none, none] σ Φ := by
 have h4 := R.aO.aO
 have h := R.cO
 refine (fM h4 ((aG (aI R.aO zF) (?_))))
 refine rh (t := nm) (x := me) (y := -1) (fun _ q => q) (fun _ q => q) (fun _ q => q) ?_
 refine rl (b1 := !nm) (b2 := decide (opt < 2) && (decide (f = 0) || (decide (f < 3) && decide (a7 < 9)))) (fun _ q => q) (fj (b1 := decide (opt < 2)) (fun _ q => q) (CK (b1 := decide (f = 0)) (fun _ q => q) (fj (b1 := decide (f < 3)) (b2 := decide (a7 < 9)) (fun _ q => q) (fun _ q => q)))) ?_
 have K0 : aV σ (σ ++ [.list []]) := .push
 refine q8 (fun dn : Nat => [some (.ref 3), some (.ref 4), some (.ref 14), some (.int s), some (.ref r), some (.bool nul), some (.int a7), e7, some (.int w), some (.int f), some (.int opt), some (.int ro), some (.bool nm), ed, some (.int (ow : Nat)), ef, eg, eh, some (.int (over : Nat)), some (.int me), some (.int mine), g1, g2, some (.int x), some (dh (.int pos) over (.int (if nm then me else -1)) (.int x) opt ro), some (.bool (aX nm opt f a7)), some (.ref dn), none, none, none, none, none, none]) (fun dn σ' => aV σ σ' /\ σ'[dn]? = some (.list ((dg (aX nm opt f a7 && S.aw) w opt ro f Ls).map .int))) (fun kk => ?_) ?_
 ·refine Kb (fj (b1 := aX nm opt f a7) (b2 := S.aw) (fun _ q => q) (fun _ q => fM (K0.old _ _ h) q)) (jV (fun e => ?_) (fun e => ?_))
  ·cbv
   refine ir (CJ f0 f6) ?_
   refine A8 (d := d + 3) (hw.keep K0.hf.gX) (fun M hM => (hg.cv M hM).1) hg.len (fun M hM => (hg.cv M hM).2.1) fun ab tn K1 _ _ ht => ?_
   rw [IT] at ht
   have cQ := lJ (stay := decide (w = 0 \/ w = 3)) (own := decide (w = 0)) (opt := opt) (ro := ro) (extra := gb f) Ls fun M hM => (hg.cv M hM).1
   have LZ := hg.len
   refine q9 (b := decide (ro = 2)) (fun _ q => q) ?_
   have Pj : ∀ b : Bool, ∀ c : Int, (if b then [c] else []).length <= 1 := fun b c => by cases b <;> exact Nat.le_of_ble_eq_true rfl
   refine vk (gU (aH ht) ay (by have := Pj (decide (ro = 2)) 4; simp only [List.length_map]; lia)) ?_
   refine q9 (b := decide (opt = 1) && !decide (ro = 1)) (fj (b1 := decide (opt = 1)) (fun _ q => q) (fun _ q => q)) ?_
   refine vk (gU (aH ay) ay (by have := Pj (decide (ro = 2)) 4; have := Pj (decide (opt = 1) && !decide (ro = 1)) 3; simp only [List.length_append, List.length_map]; lia)) ?_
   refine kk _ _ ⟨K0.trans (K1.trans (aV.push.trans (aV.push.trans (aV.push.trans .push)))), ?_⟩
   rw [ay, <- List.map_append, <- List.map_append]
   unfold dg
   rw [if_pos e]
  ·refine kk σ.length _ ⟨K0, ?_⟩
   rw [ay]
   unfold dg
   rw [e]; rfl
 rintro dn ab ⟨K1, hd⟩
 refine DO hd (fun _ => rfl) (fun _ => rfl) ?_
 have K2 : aV ab (ab ++ [.list ((cp (dg (aX nm opt f a7 && S.aw) w opt ro f Ls)).map .int)]) := .push
 refine q9 (b := aX nm opt f a7 && (S.aw && nul)) (fj (b1 := aX nm opt f a7) (fun _ q => q) (fj (b1 := S.aw) (fun _ q => fM (K2.old _ _ (K1.old _ _ h)) q) fun _ q => q)) ?_
 have K3 := K1.trans (K2.trans (aV.push (o := .list ((if aX nm opt f a7 && (S.aw && nul) then [15] else []).map .int))))
 refine fM (K3.old _ _ h) (fM (K3.old _ _ R.no) (b3 (K3.old _ _ R.nr) ?_))
 have Am := K1.len
 exact q _ dn ab.length _ K3 (by lia) (by rw [List.length_append]; lia) (aH ay) ay
end
end
section
def PT (T : cN) (t : Nat) : Prop := t ∉ [0, 1, 13] /\ ∃ b rb, T.ak[t]? = some (.ae (.int b :: rb)) /\ b ≠ 6 /\ b ≠ 7 /\ b ≠ 10 /\ vA b rb
def UT (T : cN) (t : Nat) : Prop := 15 < t /\ ∃ ps : List V, T.ak[t]? = some (.ae [.int 6, .ae ps]) /\ ps.length <= 10 /\ ∀ p : Nat, V.int p ∈ ps -> 15 < p /\ ∃ x, T.ak[p]? = some (.ae [.int 3, .str x, .int 0])
section
variable {up : Int}
theorem vj {p : Nat} (h : 15 < p) : p ∉ [0, 1, 2, 13] := by simp only [List.mem_cons, List.not_mem_nil, or_false]; lia
theorem qc {p : Nat} (h : 15 < p) : p ∉ [0, 1, 13] := by simp only [List.mem_cons, List.not_mem_nil, or_false]; lia
theorem Lm {x : Nat} : vA 3 [.str x, .int 0] := fun _ => ⟨0, rfl, by decide⟩
theorem b5 {p q : Nat} {a b : Int} {ra rb : List V} (hp : T.ak[p]? = some (.ae (.int a :: ra))) (hq : T.ak[q]? = some (.ae (.int b :: rb))) (h : a ≠ b) : p ≠ q := fun e => by
 subst e; rw [hp] at hq; cases hq; exact h rfl
theorem hW {p : Nat} (hm : m ≠ 3) (hp : T.ak[p]? = some (.ae (.int a :: ra))) (wh : 15 < p) (ha : a = 14 \/ a = 7) (ht : PT T t) (pt : p ≠ t) : bH T 14 m p t false 1 1 := by
 have op : a ∈ J6 := by rcases ha with rfl | rfl <;> decide
 have hd : a = 7 \/ a ∈ Dz := by rcases ha with rfl | rfl <;> decide
 obtain ⟨t0, b, rb, hb, b6, b7, Qr, lb⟩ := ht
 exact jj hm pt ⟨hp, hb, vj wh, t0, fun _ => op, .inl op⟩ (bM (by rcases ha with rfl | rfl <;> decide)) lb (by lia) (by lia) b6 (hd.elim .inl fun h => .inr (.inr (.inl h)))
theorem nj {p x : Nat} (wh : 15 < p) (h : T.ak[p]? = some (.ae [.int 3, .str x, .int 0])) : PT T p := ⟨qc wh, 3, _, h, by decide, by decide, by decide, Lm⟩
theorem yJ {p : Nat} (hm : m ≠ 3) (hp : T.ak[p]? = some (.ae (.int a :: ra))) (wh : 15 < p) (ha : a = 14 \/ a = 7) (ht : UT T t) : bH T 14 m p t false 11 2 := by
 have op : a ∈ J6 := by rcases ha with rfl | rfl <;> decide
 have hd : a = 7 \/ a ∈ Dz := by rcases ha with rfl | rfl <;> decide
 obtain ⟨pE, ps, hb, hl, nD⟩ := ht
 have np : ∀ q : Nat, V.int q ∈ ps -> p ≠ q := fun q hq => (nD q hq).elim fun _ p => p.elim fun _ hy => b5 hp hy (by lia)
 refine (vp (c := 1) (h := 1) hm (b5 hp hb (by lia)) ⟨hp, hb, vj wh, qc pE, fun _ => op, .inl op⟩ (bM (by rcases ha with rfl | rfl <;> decide)) hd (by lia) (by lia) (fun jW => np p jW rfl) (by lia) fun q hq => ?_).up (by lia) (by decide)
 obtain ⟨HZ, y, hy⟩ := nD q hq
 exact hW hm hp wh ha (nj HZ hy) (np q hq)
theorem lM {p b0 i c h : Nat} (hm : m ≠ 3) (hp : T.ak[p]? = some (.ae [.int 10, .int i])) (oH : T.ao[i]? = some (.int b0)) (wh : 15 < p) (Qq : 15 < b0) (lt : b0 < p) (hc : c <= 500) (ht : PT T t) {v : Bool} (K : bH T 14 m b0 t v c h) : bH T 14 m p t v (c + 1) (h + 1) := by
 obtain ⟨t0, b, rb, hb, b6, b7, Qr, lb⟩ := ht
 exact pg hm (b5 hp hb (Ne.symm Qr)) ⟨hp, hb, vj wh, t0, fun _ => by decide, .inl (by decide)⟩ lb oH (by lia) lt b6 b7 (by lia) K
theorem Bs {p b0 i c h c' : Nat} (hm : m ≠ 3) (hp : T.ak[p]? = some (.ae [.int 10, .int i])) (oH : T.ao[i]? = some (.int b0)) (wh : 15 < p) (Qq : 15 < b0) (lt : b0 < p) (hc : c <= 500) (DJ : c' <= 500) (ht : UT T t)
  (K : ∀ t, 15 < t -> PT T t -> (∃ x, T.ak[t]? = some (.ae [.int 3, .str x, .int 0])) -> bH T 14 m b0 t false c h) (K2 : bH T 14 m b0 t false c' (h + 1)) : bH T 14 m p t false ((c + 1) * 10 + c' + 1) (h + 2) := by
 obtain ⟨pE, ps, hb, hl, nD⟩ := ht
 have np : ∀ q : Nat, V.int q ∈ ps -> p ≠ q := fun q hq => (nD q hq).elim fun _ p => p.elim fun _ hy => b5 hp hy (by decide)
 have NA : (c + 1) * ps.length <= (c + 1) * 10 := Nat.mul_le_mul_left _ hl
 refine (sV (c := c + 1) (c' := c') (h := h + 1) hm (b5 hp hb (by decide)) ⟨hp, hb, vj wh, qc pE, fun _ => by decide, .inl (by decide)⟩ oH (by lia) lt (by lia) (fun jW => np p jW rfl) (by lia) (fun q hq => ?_) K2).up (by lia) (by lia)
 obtain ⟨HZ, y, hy⟩ := nD q hq
 exact lM hm hp oH wh Qq lt hc (nj HZ hy) (K q HZ (nj HZ hy) ⟨y, hy⟩)
theorem ym (hm : m ≠ 3) (J : KJ T s ow k j) (O : gy T w ow k j is up over) (w5 : w ≠ 5) (OQ : 15 < over) (ht : PT T t \/ UT T t) (no : ow ≠ t) (OR : over ≠ t) : bH T 14 m over t false 63 4 := by
 obtain ⟨i1, Am, DI⟩ := J.kr
 obtain ⟨i2, Ja, Nz⟩ := J.jr
 have o5 := J.tK
 have lk := J.lk
 have lj := J.lj
 have xw : ∀ {p : Nat} {a : Int} {ra : List V}, T.ak[p]? = some (.ae (.int a :: ra)) -> 15 < p -> a = 14 \/ a = 7 -> p ≠ t -> bH T 14 m p t false 63 4 := fun hp wh ha pt =>
  ht.elim (fun h => (hW hm hp wh ha h pt).up (by decide) (by decide)) fun h => (yJ hm hp wh ha h).up (by decide) (by decide)
 have KX : ∀ q, 15 < q -> PT T q -> (∃ x, T.ak[q]? = some (.ae [.int 3, .str x, .int 0])) -> bH T 14 m ow q false 1 1 := fun q _ hq ⟨_, hx⟩ => hW hm J.own o5 (.inl rfl) hq (b5 J.own hx (by decide))
 have kq : ∀ q, 15 < q -> PT T q -> (∃ x, T.ak[q]? = some (.ae [.int 3, .str x, .int 0])) -> bH T 14 m k q false 2 2 := fun q HZ hq hx => lM hm Am DI (by lia) o5 lk (by decide) hq (KX q HZ hq hx)
 have K : bH T 14 m k t false 63 4 /\ bH T 14 m j t false 63 4 := by
  rcases ht with h | h
  ·have K1 := lM hm Am DI (by lia) o5 lk (by decide) h (hW hm J.own o5 (.inl rfl) h no)
   exact ⟨K1.up (by decide) (by decide), (lM hm Ja Nz (by lia) (by lia) lj (by decide) h K1).up (by decide) (by decide)⟩
  ·have K1 := Bs hm Am DI (by lia) o5 lk (by decide) (by decide) h KX (yJ hm J.own o5 (.inl rfl) h)
   exact ⟨K1.up (by decide) (by decide), (Bs hm Ja Nz (by lia) (by lia) lj (by decide) (by decide) h kq K1).up (by decide) (by decide)⟩
 rcases O with ⟨_, rfl⟩ | ⟨_, rfl⟩ | ⟨_, rfl⟩ | ⟨_, h⟩ | ⟨_, h⟩ | ⟨h, _⟩ | ⟨_, u, _, h⟩
 ·exact xw J.own o5 (.inl rfl) no
 ·exact K.1
 ·exact K.2
 ·exact xw h OQ (.inr rfl) OR
 ·exact xw h OQ (.inr rfl) OR
 ·exact absurd h w5
 ·exact xw h OQ (.inl rfl) OR
end
end
variable {wB : Nat}
section
section
variable {up : Int}
theorem HP : (sd is).length <= is.length := by
 unfold sd; rw [List.length_mergeSort, List.length_map]
 have := eO is []
 simpa using this
theorem kg (R : TR T σ) {i x : Nat} (h : T.ak[i]? = some (.ae [.int 3, .str x, .int 0])) : 15 < i := R.new h (by decide) fun h => absurd h (by decide)
theorem xn : aQ.all (fun r => match r with | .ae (.int 6 :: _) => V.beq r (.ae [.int 6, .ae [.int 8, .int 9]]) | _ => true) = true := rfl
theorem yZ (R : TR T σ) {u p : Nat} {ps : List V} (h : T.ak[u]? = some (.ae [.int 6, .ae ps])) (hp : V.int p ∈ ps) (wh : 15 < p) : 15 < u := Nat.lt_of_not_le fun zG => by
 have fP : u < aQ.length := Nat.lt_of_le_of_lt zG (by decide)
 have h1 := R.bN (List.getElem?_eq_getElem fP)
 rw [h] at h1
 have h2 := List.all_eq_true.mp xn aQ[u] (List.getElem_mem fP)
 rw [<- Option.some.inj h1] at h2
 have h2 : V.beq (.ae [.int 6, .ae ps]) (.ae [.int 6, .ae [.int 8, .int 9]]) = true := h2
 have e2 : ps = [.int 8, .int 9] := V.ae.inj (List.cons.inj (List.cons.inj (V.ae.inj ((V.eI _ _).mp h2))).2).1
 rw [e2] at hp
 simp only [List.mem_cons, List.not_mem_nil, or_false] at hp
 rcases hp with hp | hp <;> (have := V.int.inj hp; lia)
theorem nL (R : TR T σ) (hu : Un T wB (sd is)) (ht : bA T kB is) (hl : kB.length <= 10) : (is = [] /\ wB = 2) \/ (∃ x, T.ak[wB]? = some (.ae [.int 3, .str x, .int 0])) \/ (UT T wB /\ ∃ (ps : List V) (p0 : Nat) (v9 : List V), T.ak[wB]? = some (.ae [.int 6, .ae ps]) /\ ps = .int p0 :: v9) := by
 have mem : ∀ p : Nat, (p : Int) ∈ sd is -> ∃ x, T.ak[p]? = some (.ae [.int 3, .str x, .int 0]) := fun p hp => by
  obtain ⟨q, hq, e⟩ := c9.mp hp
  cases Int.ofNat.inj e
  obtain ⟨x, h, _⟩ := ht.mem _ hq
  exact ⟨x, h⟩
 rcases hu with ⟨h, e⟩ | h | ⟨h2, h⟩
 ·refine .inl ⟨?_, e⟩
  cases is with
  | nil => rfl
  | cons i is =>
   have : (i : Int) ∈ sd (i :: is) := c9.mpr ⟨i, .head _, rfl⟩
   rw [h] at this; cases this
 ·exact .inr (.inl (mem wB (by rw [h]; exact .head _)))
 ·have nD : ∀ p : Nat, V.int p ∈ (sd is).map V.int -> 15 < p /\ ∃ x, T.ak[p]? = some (.ae [.int 3, .str x, .int 0]) := fun p hp => (mem p (gp.mp hp)).elim fun x hx => ⟨kg R hx, x, hx⟩
  obtain ⟨p0, v9, he⟩ : ∃ (p0 : Nat) (v9 : List V), (sd is).map V.int = .int p0 :: v9 := by
   cases vK : sd is with
   | nil => rw [vK] at h2; simp at h2
   | cons z l =>
    obtain ⟨q, _, e⟩ := c9.mp (show z ∈ sd is by rw [vK]; exact .head _)
    exact ⟨q, l.map V.int, by rw [<- e]; rfl⟩
  have Pm := nD p0 (by rw [he]; exact .head _)
  have h3 : ((sd is).map V.int).length <= 10 := by rw [List.length_map]; have := HP (is := is); have := ht.len; lia
  exact .inr (.inr ⟨⟨yZ R h (show V.int p0 ∈ _ by rw [he]; exact .head _) Pm.1, _, h, h3, nD⟩, _, p0, v9, h, he⟩)
theorem iG (R : TR T σ) (J : KJ T s ow k j) (O : gy T w ow k j is up over) (IX : ∀ u : Nat, up = u -> u ≠ s) (ht : bA T kB is) (hl : kB.length <= 10) (w5 : w = 5 -> is ≠ []) :
  ∃ (kk : Int) (rk : List V) (x : Nat), T.ak[over]? = some (.ae (.int kk :: rk)) /\ (kk = 7 /\ (∃ l, rk = [.ae (.int x :: l)]) \/ kk ≠ 7 /\ x = over) /\ x < T.ak.length /\ (x = ow <-> (w = 0 \/ w = 3)) /\ (over = ow <-> w = 0) /\ 15 < over /\ (w ≠ 5 -> kk = 14 \/ kk = 10 \/ kk = 7) /\ (kk = 14 -> w = 0 \/ w = 6) := by
 obtain ⟨i1, Am, _⟩ := J.kr
 obtain ⟨i2, Ja, _⟩ := J.jr
 have o5 := J.tK
 have lk := J.lk
 have lj := J.lj
 rcases O with ⟨rfl, rfl⟩ | ⟨rfl, rfl⟩ | ⟨rfl, rfl⟩ | ⟨rfl, h⟩ | ⟨rfl, h⟩ | ⟨rfl, h⟩ | ⟨rfl, u, e, h⟩
 ·exact ⟨14, _, _, J.own, .inr ⟨by decide, rfl⟩, R.lt J.own, by simp, by simp, o5, by lia, by lia⟩
 ·exact ⟨10, _, _, Am, .inr ⟨by decide, rfl⟩, R.lt Am, by lia, by lia, by lia, by lia, by lia⟩
 ·exact ⟨10, _, _, Ja, .inr ⟨by decide, rfl⟩, R.lt Ja, by lia, by lia, by lia, by lia, by lia⟩
 ·have := b5 h J.own (by decide)
  exact ⟨7, _, ow, h, .inl ⟨rfl, _, rfl⟩, R.lt J.own, by lia, by lia, R.new h (by decide) fun h => absurd h (by decide), by lia, by lia⟩
 ·have := b5 h J.own (by decide)
  exact ⟨7, _, k, h, .inl ⟨rfl, _, rfl⟩, R.lt Am, by lia, by lia, R.new h (by decide) fun h => absurd h (by decide), by lia, by lia⟩
 ·rcases nL R h ht hl with ⟨e, _⟩ | ⟨x, hx⟩ | ⟨U, ps, p0, v9, nD, _⟩
  ·exact absurd e (w5 rfl)
  ·have := b5 hx J.own (by decide)
   exact ⟨3, _, _, hx, .inr ⟨by decide, rfl⟩, R.lt hx, by lia, by lia, kg R hx, by lia, by lia⟩
  ·have := b5 nD J.own (by decide)
   exact ⟨6, _, _, nD, .inr ⟨by decide, rfl⟩, R.lt nD, by lia, by lia, U.1, by lia, by lia⟩
 ·have ne : over ≠ ow := fun g => by
   subst g; rw [J.own] at h
   have := V.int.inj (List.cons.inj (List.cons.inj (V.ae.inj (Option.some.inj h))).2).1
   exact IX u e (by lia)
  exact ⟨14, _, _, h, .inr ⟨by decide, rfl⟩, R.lt h, by lia, by lia, R.new h (by decide) fun h => absurd h (by decide), by lia, by lia⟩
end
end
variable {O6 : List Nat}
section
section
variable {up : Int} {Iy : List Nat}
theorem Un.inj (R : TR T σ) {u v : Nat} {l : List Int} (h : Un T u l) (g : Un T v l) : u = v := by
 rcases h with ⟨h, e⟩ | h | ⟨h, hr⟩
 ·rcases g with ⟨_, e2⟩ | g | ⟨g, _⟩
  ·rw [e, e2]
  ·rw [h] at g; cases g
  ·rw [h] at g; exact absurd g (by decide)
 ·rcases g with ⟨g, _⟩ | g | ⟨g, _⟩
  ·rw [h] at g; cases g
  ·rw [h] at g; exact Int.ofNat.inj (List.cons.inj g).1
  ·rw [h] at g; exact absurd g (Nat.not_le_of_lt (Nat.lt_succ_self 1))
 ·rcases g with ⟨g, _⟩ | g | ⟨_, gr⟩
  ·rw [g] at h; exact absurd h (by decide)
  ·rw [g] at h; exact absurd h (Nat.not_le_of_lt (Nat.lt_succ_self 1))
  ·exact R.inj hr gr
theorem H8 {c : Nat} (J : KJ T s ow k c) : PT T ow := ⟨qc J.tK, 14, _, J.own, by decide, by decide, by decide, bM (by decide)⟩
theorem zy (R : TR T σ) (hm : m ≠ 3) (J : KJ T s ow k j) (O : gy T w ow k j is up over) (IX : ∀ u : Nat, up = u -> u ≠ s) (ht : bA T kB is) (hl : kB.length <= 10) (w5 : w = 5 -> is ≠ []) : bH T 14 m over ow (decide (w <= 2)) 63 4 := by
 obtain ⟨i1, Am, DI⟩ := J.kr
 obtain ⟨i2, Ja, Nz⟩ := J.jr
 have o5 := J.tK
 have lk := J.lk
 have lj := J.lj
 have P := H8 J
 have A0 : bH T 14 m ow ow true 0 1 := lW hm
 have A1 := lM hm Am DI (by lia) o5 lk (by decide) P A0
 have A2 := lM hm Ja Nz (by lia) (by lia) lj (by decide) P A1
 obtain ⟨kk, rk, x, h1, _, _, _, h4, h5, _, _⟩ := iG R J O IX ht hl w5
 rcases O with ⟨rfl, rfl⟩ | ⟨rfl, rfl⟩ | ⟨rfl, rfl⟩ | ⟨rfl, h⟩ | ⟨rfl, h⟩ | ⟨rfl, h⟩ | ⟨rfl, u, e, h⟩
 ·exact A0.up (by decide) (by decide)
 ·exact A1.up (by decide) (by decide)
 ·exact A2.up (by decide) (by decide)
 ·exact (hW hm h h5 (.inr rfl) P (by lia)).up (by decide) (by decide)
 ·exact (hW hm h h5 (.inr rfl) P (by lia)).up (by decide) (by decide)
 ·have xw : ∀ p y, T.ak[p]? = some (.ae [.int 3, .str y, .int 0]) -> bH T 14 m p ow false 1 1 := fun p y hp =>
   jj hm (b5 hp J.own (by decide)) ⟨hp, J.own, vj (kg R hp), qc o5, fun e => by lia, .inr (by decide)⟩ Lm (bM (by decide)) (by decide) (by decide) (by decide) (.inr (.inr (.inr (by decide))))
  rcases nL R h ht hl with ⟨e, _⟩ | ⟨y, hy⟩ | ⟨⟨QX, ps, nD, DF, Pk⟩, Vq, p0, v9, LO, he⟩
  ·exact absurd e (w5 rfl)
  ·exact (xw over y hy).up (by decide) (by decide)
  ·rw [nD] at LO
   cases LO
   have K := pj (n := 14) (c := 1) (h := 1) hm (b5 nD J.own (by decide)) ⟨nD, J.own, vj QX, qc o5, fun e => by lia, .inr (by decide)⟩ (bM (by decide)) (by lia) (by decide) he (by lia) fun p hp => (Pk p hp).elim fun _ h => h.elim fun y hy => xw p y hy
   exact K.up (by lia) (by decide)
 ·have ne : over ≠ ow := fun g => absurd (h4.mp g) (by decide)
  exact (hW hm h h5 (.inl rfl) P ne).up (by decide) (by decide)
theorem wJ (R : TR T σ) (hm : m ≠ 3) (J : KJ T s ow k j) (O : gy T w ow k j is up over) (IX : ∀ u : Nat, up = u -> u ≠ s) (ht : bA T kB is) (hl : kB.length <= 10) (w5 : w = 5 -> is ≠ [])
  (Ry : bA T Iy O6) (L8 : Iy.length <= 10) (hu : Un T wB (sd O6)) (hn : w = 5 -> kB = Iy) : bH T 14 m over wB (decide (w = 5)) 63 4 := by
 obtain ⟨kk, rk, x, h1, _, _, _, h4, h5, h6, _⟩ := iG R J O IX ht hl w5
 by_cases e : w = 5
 ·rw [decide_eq_true e]
  have hn := hn e
  subst hn
  have e2 := bA.inj R ht Ry
  subst e2
  rcases O with ⟨g, _⟩ | ⟨g, _⟩ | ⟨g, _⟩ | ⟨g, _⟩ | ⟨g, _⟩ | ⟨_, g⟩ | ⟨g, _⟩
  ·lia
  ·lia
  ·lia
  ·lia
  ·lia
  ·rw [Un.inj R g hu]; exact (lW hm).up (by decide) (by decide)
  ·lia
 ·rw [decide_eq_false e]
  have h6 := h6 e
  have a6 : ∀ (b : Int) rb, T.ak[wB]? = some (.ae (.int b :: rb)) -> b = 1 \/ b = 3 \/ b = 6 -> PT T wB \/ UT T wB -> bH T 14 m over wB false 63 4 := fun b rb hb NC P =>
   ym hm J O e h5 P (b5 J.own hb (by lia)) (b5 h1 hb (by lia))
  rcases nL R hu Ry L8 with ⟨_, rfl⟩ | ⟨y, hy⟩ | ⟨U, ps, p0, v9, nD, he⟩
  ·have hb := R.bN (t := 2) rfl
   exact a6 1 _ hb (.inl rfl) (.inl ⟨by decide, 1, _, hb, by decide, by decide, by decide, bM (by decide)⟩)
  ·exact a6 3 _ hy (.inr (.inl rfl)) (.inl (nj (kg R hy) hy))
  ·exact a6 6 _ nD (.inr (.inr rfl)) (.inr U)
theorem zx {ov vv : Nat} (R : TR T σ) (hm : m ≠ 3) (J : KJ T s ow k j) (O : gy T w ow k j is up over) (IX : ∀ u : Nat, up = u -> u ≠ s) (ht : bA T kB is) (hl : kB.length <= 10) (hw : w ≠ 5 /\ w ≠ 6)
  (ho : T.ak[ov]? = some (.ae [.int 14, .int vv])) (H9 : 15 < ov) (K : bH T 14 m vv s false 4 3) :
  ∃ (kk : Int) (rk : List V), T.ak[over]? = some (.ae (.int kk :: rk)) /\ ((kk = 14 /\ ∃ z : Nat, rk = [.int z] /\ bH T 14 m vv z false 63 4) \/ kk ≠ 14 /\ bH T 14 m over ov false 63 4) := by
 have vs : vv ≠ s := fun e => by
  subst e
  exact absurd (K.iff.mpr ((lW (T := T) (n := 14) (s := vv) hm).iff.mp rfl)) (by decide)
 have ne : ow ≠ ov := fun e => by
  subst e
  have h := J.own
  rw [ho] at h
  have := V.int.inj (List.cons.inj (List.cons.inj (V.ae.inj (Option.some.inj h))).2).1
  lia
 obtain ⟨kk, rk, x, h1, _, _, _, h4, h5, h6, h7⟩ := iG R J O IX ht hl fun e => absurd e hw.1
 refine ⟨kk, rk, h1, ?_⟩
 by_cases e : kk = 14
 ·have w0 := (h7 e).resolve_right hw.2
  have e2 := h4.mpr w0
  subst e2
  have h8 := J.own
  rw [h1] at h8
  have h9 := (List.cons.inj (V.ae.inj (Option.some.inj h8))).2
  exact .inl ⟨e, s, h9, K.up (by decide) (by decide)⟩
 ·exact .inr ⟨e, ym hm J O hw.1 h5 (.inl ⟨qc H9, 14, _, ho, by decide, by decide, by decide, bM (by decide)⟩) ne (b5 h1 ho e)⟩
end
end
section
def j2 (mine : Nat) (T : cN) (t : Nat) : Prop := (PT T t /\ t ≠ mine) \/ (15 < t /\ ∃ ps : List V, T.ak[t]? = some (.ae [.int 6, .ae ps]) /\ ps.length <= 10 /\ ∀ p : Nat, V.int p ∈ ps -> PT T p /\ p ≠ mine)
def Gf (ow : Nat) (sh : Sh) (T : cN) (t : Nat) : Prop := match sh with
 | none => t = ow
 | some (es, _, _) => ∃ is, bA T (es.map (·.name)) is /\ Un T t (sd is)
section
variable {v1 : Nat} {S : cW} {up : Int}
theorem PT.ext {c : Nat} (h : PT T t) (x : bb c T T') : PT T' t := let ⟨a, b, rb, h1, h2⟩ := h; ⟨a, b, rb, x.row h1, h2⟩
theorem j2.ext {c : Nat} (h : j2 mine T t) (x : bb c T T') : j2 mine T' t :=
 h.imp (And.imp (fun g => g.ext x) id) (And.imp id fun ⟨ps, a, b, g⟩ => ⟨ps, x.row a, b, fun p hp => (g p hp).imp (fun g => g.ext x) id⟩)
theorem j2.Qx (hm : m ≠ 3) (h : j2 mine T t) (p6 : T.ak[mine]? = some (.ae [.int 15, .int s, .int me])) (pI : 15 < mine) : bH T 14 m mine t false 11 2 := by
 have s7 : ∀ t, PT T t -> t ≠ mine -> bH T 14 m mine t false 1 1 := fun t ⟨t0, b, rb, hb, b6, b7, Qr, lb⟩ ne =>
  jj hm ne.symm ⟨p6, hb, vj pI, t0, fun _ => by decide, .inl (by decide)⟩ (bM (by decide)) lb (by decide) (by decide) b6 (.inr (.inr (.inl (by decide))))
 rcases h with ⟨h, ne⟩ | ⟨pE, ps, ht, hl, h⟩
 ·exact (s7 t h ne).up (by decide) (by decide)
 ·exact (vp (c := 1) (h := 1) hm (b5 p6 ht (by decide)) ⟨p6, ht, vj pI, qc pE, fun _ => by decide, .inl (by decide)⟩ (bM (by decide)) (.inr (by decide)) (by decide) (by lia) (fun jW => (h mine jW).2 rfl) (by lia) fun p hp => s7 p (h p hp).1 (h p hp).2).up (by lia) (by decide)
theorem nJ (R : TR T σ) {u p : Nat} {ps : List V} (h : T.ak[u]? = some (.ae [.int 6, .ae ps])) (hp : V.int p ∈ ps) (p8 : p ≠ 8) (p9 : p ≠ 9) : 15 < u := Nat.lt_of_not_le fun zG => by
 have fP : u < aQ.length := Nat.lt_of_le_of_lt zG (by decide)
 have h1 := R.bN (List.getElem?_eq_getElem fP)
 rw [h] at h1
 have h2 := List.all_eq_true.mp xn aQ[u] (List.getElem_mem fP)
 rw [<- Option.some.inj h1] at h2
 have h2 : V.beq (.ae [.int 6, .ae ps]) (.ae [.int 6, .ae [.int 8, .int 9]]) = true := h2
 have e2 : ps = [.int 8, .int 9] := V.ae.inj (List.cons.inj (List.cons.inj (V.ae.inj ((V.eI _ _).mp h2))).2).1
 rw [e2] at hp
 simp only [List.mem_cons, List.not_mem_nil, or_false] at hp
 rcases hp with hp | hp <;> (have := V.int.inj hp; lia)
theorem t5 : ∀ {ps : List V}, (∀ p ∈ ps, ∃ n : Nat, p = .int n) -> ∃ qs : List Nat, ps = qs.map fun (q : Nat) => V.int q
 | [], _ => ⟨[], rfl⟩
 | p :: ps, h => by
  obtain ⟨n, rfl⟩ := h p (.head _)
  obtain ⟨qs, rfl⟩ := t5 fun q hq => h q (.tail _ hq)
  exact ⟨n :: qs, rfl⟩
theorem yV (R : TR T σ) (hz : T.size < 999990) (P : PM T s v1 me mine over) {y : Nat} (hy : y = 5 \/ y = 7) (h : Gb T x mine y) (q : ∀ aZ ab wt, TS 4 T σ aZ ab -> pn mine aZ wt -> Q (.int wt) ab) : cl (d + 4) 16 [.ref 4, .int x] σ Q := by
 obtain ⟨ps, hr, hm, _, hp, hl⟩ := h
 obtain ⟨qs, rfl⟩ := t5 fun p hp => (R.y7 x ps hr p hp).imp fun _ h => h.1
 have pI := P.pI
 have hq : ∀ p ∈ qs, p = mine \/ p = y := fun p LQ => hp p (List.mem_map.mpr ⟨p, LQ, rfl⟩)
 have TX : mine ∈ qs := by
  obtain ⟨p, h1, h2⟩ := List.mem_map.mp hm
  cases Int.ofNat.inj (V.int.inj h2)
  exact h1
 have JQ := nJ R hr hm (by lia) (by lia)
 rw [List.length_map] at hl
 refine lC (qs := qs) R (by lia) (.inr ⟨by lia, 6, _, hr, .inl ⟨rfl, rfl⟩⟩) (by lia) (fun p LQ => ?_) fun T' σ' u ts _ _ hu => q T' σ' u ⟨ts.tr, ts.ext.up (by decide), ts.fr⟩ ?_
 ·rcases hq p LQ with rfl | rfl
  ·exact ⟨15, fX P.EJ pI, by decide, fun p' _ e => by have e : (p' : Int) = -1 := e; lia⟩
  ·exact ⟨1, jL R hy, by decide, fun p' _ e => by have e : (p' : Int) = -1 := e; lia⟩
 ·have i1 : (mine : Int) ∈ sd (qs ++ [4]) := c9.mpr ⟨mine, List.mem_append.mpr (.inl TX), rfl⟩
  have i2 : (4 : Int) ∈ sd (qs ++ [4]) := c9.mpr ⟨4, List.mem_append.mpr (.inr (.head _)), rfl⟩
  rcases hu with ⟨h, _⟩ | h | ⟨_, h⟩
  ·rw [h] at i1; cases i1
  ·rw [h] at i1 i2
   have e1 := List.mem_singleton.mp i1
   have e2 := List.mem_singleton.mp i2
   lia
  ·exact ⟨_, h, gp.mpr i1⟩
theorem DP (R : TR T σ) (hz : T.size < 999990) {kx : Int} (hx : cS T x kx) (hk : kx = 1 \/ kx = 15) (hP : PT T x) (xm : x ≠ mine) (x4 : x ≠ 4) (pI : 15 < mine) (q : ∀ aZ ab wt, TS 4 T σ aZ ab -> j2 mine aZ wt -> Q (.int wt) ab) : cl (d + 4) 16 [.ref 4, .int x] σ Q := by
 refine lC (qs := [x]) R (by lia) hx.gH (Nat.le_of_ble_eq_true rfl) (fun p LQ => ?_) fun T' σ' u ts _ _ hu => q T' σ' u ⟨ts.tr, ts.ext.up (by decide), ts.fr⟩ ?_
 ·rw [List.mem_singleton.mp LQ]
  refine ⟨kx, hx, by rcases hk with rfl | rfl <;> decide, fun p' _ e => ?_⟩
  have e : (p' : Int) = -1 := by rcases hk with rfl | rfl <;> exact e
  lia
 ·obtain ⟨ps, h, i1, i2, hp, hl⟩ := AW (t := x) (y := 4) hu x4
  refine .inr ⟨nJ ts.tr h i2 (by decide) (by decide), ps, h, by lia, fun p Pk => ?_⟩
  rcases hp p Pk with rfl | rfl
  ·exact ⟨hP.ext ts.ext, xm⟩
  ·exact ⟨⟨by decide, 1, _, ts.tr.bN (t := 4) rfl, by decide, by decide, by decide, bM (by decide)⟩, by lia⟩
theorem t9 (hz : T.size + 20 < 999990) (C : cZ b0 T m σ s a ra sh Ls nul a7 up) (M0 : 22 < b0) (M5 : a ≠ 17) (J : KJ T s ow k j) {aZ : cN} {ab : ag} (ts : TS 4 T σ aZ ab) (S : cW) (d : Nat) (Q' : PQ) (R1 : RR aZ 14 m S ab) (q : ∀ aD ah nm, TS 8 aZ ab aD ah -> Gf ow sh aD nm -> Q' (.int nm) ah) : cl (d + 8) 64 [.ref 13, .int s] ab Q' := by
 have jm := ts.ext.size
 rcases C.cls with ⟨rfl, ha, _⟩ | ⟨LM, _⟩ | ⟨_, h, _⟩
 ·exact wF R1 (by lia) (ts.ext.row C.hs) ha (ts.ext.row J.own) J.tK (fun e Q' q' => C.Mk e 4 aZ ab ts.ext ts.tr d Q' q') fun aD ah t2 _ _ => q aD ah ow ⟨t2.tr, t2.ext.up (by decide), t2.fr⟩ rfl
 ·rcases sh with _ | ⟨es, c0, c1⟩
  ·cases LM
  ·obtain ⟨L, rfl, O, M⟩ := C.s7 es c0 c1 rfl
   have hl : es.length <= 4 := by
    have := congrArg List.length M.uY
    rw [List.length_map, List.length_map] at this
    have h2 := List.length_filter_le (fun e : En => !e.dE) L
    have := O.len
    lia
   refine t8 R1 (by lia) (by lia) ((C.MQ ab (ts.fr.hf.from M0)).ext ts.ext) fun aD ah u is t2 _ _ ht hu => q aD ah u ⟨t2.tr, t2.ext.up (by lia), t2.fr⟩ ⟨is, ht, hu⟩
 ·exact absurd h M5
end
end
variable {cs : List Int}
section
structure Hh (Ls : List (List En)) (sh : Sh) : Prop where
 sF : pv Ls
 DD : dR sh = true -> ∃ M ∈ Ls, ∃ e ∈ M, e.dE = true /\ e.free = false /\ e.mask ∈ ([1, 3, 7] : List Int)
 O7 : (∃ M ∈ Ls, ∃ e ∈ M, e.dE = true) -> dR sh = true
 ro : fY sh = true -> ∃ M ∈ Ls, ∃ e ∈ M, e.aT = true
 SO : (∃ M ∈ Ls, ∃ e ∈ M, e.aT = true) -> fY sh = true
noncomputable def gv (mk : Int) (fr : Bool) : Int := if fr then Builtin.bitOr mk 16 else mk
section
variable {Qi : List Int} {c : Int} {own : Bool}
theorem Hb : ∀ mk ∈ fU, ∀ fr : Bool, ∀ ex ∈ ([0, 8, 32] : List Int), ((Builtin.bitOr (Builtin.bitOr (gv mk fr) ex) 16).fdiv 16).fmod 2 ≠ 0 := by decide
theorem Ha : ∀ mk ∈ ([1, 3, 7] : List Int), ∀ ex ∈ ([0, 8, 32] : List Int), ((Builtin.bitOr (gv mk false) ex).fdiv 16).fmod 2 = 0 := by decide
theorem MX : ∀ mk ∈ fU, ∀ fr : Bool, Builtin.bitOr (gv mk fr) 0 = gv mk fr := by decide
theorem G9 : ∀ mk ∈ fU, ∀ fr : Bool, ∀ ex ∈ ([8, 32] : List Int), Builtin.bitOr (gv mk fr) ex ≠ gv mk fr /\ Builtin.bitOr (Builtin.bitOr (gv mk fr) ex) 16 ≠ gv mk fr := by decide
set_option tactic.hygienic true in
theorem bP {c x : Int} {P : Prop} [Decidable P] : c ∈ (if P then [x] else []) <-> P /\ c = x := by
 split
 ·rename_i h; rw [List.mem_singleton]; exact ⟨fun e => ⟨h, e⟩, fun e => e.2⟩
 ·rename_i h; exact ⟨(fun e => nomatch e), fun e => absurd e.1 h⟩
set_option tactic.hygienic true in
theorem fG : c ∈ lU stay own opt ro extra e <-> ¬(e.dE = true /\ own = true) /\ ((e.dE = true /\ ((e.kO opt extra).fdiv 16).fmod 2 = 0) /\ c = 5 \/ ¬(ro = 1 \/ (ro = 0 /\ stay = true /\ e.aT = true)) /\ (e.aT = true /\ c = 4 \/ e.kO opt extra ≠ e.qH /\ c = 3)) := by
 unfold lU
 split
 ·rename_i h
  rw [Bool.and_eq_true] at h
  exact ⟨(fun e => nomatch e), fun e => absurd h e.1⟩
 ·rename_i h
  rw [Bool.and_eq_true] at h
  rw [List.mem_append]
  refine Iff.trans (or_congr bP ?_) ⟨fun g => ⟨h, g⟩, fun g => g.2⟩
  split
  ·rename_i h2; exact ⟨(fun e => nomatch e), fun e => absurd h2 e.1⟩
  ·rename_i h2
   rw [List.mem_append]
   exact Iff.trans (or_congr bP bP) ⟨fun g => ⟨h2, g⟩, fun g => g.2⟩
theorem fp : c ∈ dG stay own opt ro extra Ls <-> ∃ M ∈ Ls, ∃ e ∈ M, c ∈ lU stay own opt ro extra e := by
 unfold dG
 rw [List.mem_flatMap]
 exact exists_congr fun M => and_congr Iff.rfl List.mem_flatMap
theorem jb : c ∈ dg true w opt ro f Ls <-> c ∈ dG (decide (w = 0 \/ w = 3)) (decide (w = 0)) opt ro (gb f) Ls \/ (ro = 2 /\ c = 4) \/ ((opt = 1 /\ ro ≠ 1) /\ c = 3) := by
 unfold dg
 rw [if_pos rfl, List.mem_append, List.mem_append, or_assoc]
 refine or_congr Iff.rfl (or_congr ?_ ?_)
 ·rw [bP, decide_eq_true_eq]
 ·rw [bP, Bool.and_eq_true, decide_eq_true_eq, Bool.not_eq_true', decide_eq_false_iff_not]
theorem vb (h : ∀ c ∈ ([3, 4, 5] : List Int), c ∈ cs <-> c ∈ Qi) (xj : (15 : Int) ∉ cs) : bl (cs ++ if nul then [15] else []) = cp Qi ++ if nul then [15] else [] := by
 have h3 : ∀ c ∈ ([3, 4, 5] : List Int), decide (c ∈ cs ++ if nul then [15] else []) = decide (c ∈ Qi) := fun c hc => decide_eq_decide.mpr (by
  rw [List.mem_append, h c hc, bP]
  refine ⟨fun g => g.elim id fun g => ?_, .inl⟩
  rw [g.2] at hc; exact absurd hc (by decide))
 have e1 : bl (cs ++ if nul then [15] else []) = ([3, 4, 5].filter fun c => decide (c ∈ cs ++ if nul then [15] else [])) ++ [15].filter fun c => decide (c ∈ cs ++ if nul then [15] else []) := by
  unfold bl; rw [<- List.filter_append]; rfl
 rw [e1, List.filter_congr h3]
 unfold cp
 congr 1
 cases nul with
 | true => rw [List.filter_cons_of_pos (by simp)]; rfl
 | false => rw [List.filter_cons_of_neg (by simpa using xj)]; rfl
theorem Gw {P : Int -> Prop} (h3 : P 3) (h4 : P 4) (h5 : P 5) : ∀ c ∈ ([3, 4, 5] : List Int), P c := fun c hc => by
 rcases List.mem_cons.mp hc with rfl | hc
 ·exact h3
 rcases List.mem_cons.mp hc with rfl | hc
 ·exact h4
 ·rw [List.mem_singleton.mp hc]; exact h5
theorem yK (H : Hh Ls sh) (ho : opt = 0 \/ opt = 1) (hr : ro = 0 \/ ro = 1 \/ ro = 2) {c4 c3 c5 : List Int} (g4 : c4 = if ro = 2 \/ (ro = 0 /\ ¬(w = 0 \/ w = 3) /\ fY sh = true) then [4] else []) (g3 : c3 = if opt = 1 /\ ro ≠ 1 then [3] else []) (g5 : c5 = if opt = 0 /\ w ≠ 0 /\ dR sh = true then [5] else []) :
  bl ((c4 ++ c3 ++ c5) ++ if nul then [15] else []) = cp (dg true w opt ro 0 Ls) ++ if nul then [15] else [] := by
 subst g4 g3 g5
 have P9 : gb 0 = 0 := rfl
 have mem : ∀ c : Int, c ∈ (if ro = 2 \/ (ro = 0 /\ ¬(w = 0 \/ w = 3) /\ fY sh = true) then [4] else []) ++ (if opt = 1 /\ ro ≠ 1 then [3] else []) ++ (if opt = 0 /\ w ≠ 0 /\ dR sh = true then [5] else []) <->
   ((ro = 2 \/ (ro = 0 /\ ¬(w = 0 \/ w = 3) /\ fY sh = true)) /\ c = 4 \/ (opt = 1 /\ ro ≠ 1) /\ c = 3) \/ (opt = 0 /\ w ≠ 0 /\ dR sh = true) /\ c = 5 := fun c => by
  rw [List.mem_append, List.mem_append]; exact or_congr (or_congr bP bP) bP
 have qH : ∀ e : En, e.qH = gv e.mask e.free := fun e => rfl
 refine vb (Gw ?_ ?_ ?_) fun h => by rw [mem] at h; lia
 ·rw [mem, jb, fp, P9]
  constructor
  ·intro h; exact .inr (.inr ⟨by lia, rfl⟩)
  ·rintro (⟨M, hM, e, he, h⟩ | h | h)
   ·rw [fG] at h
    have hm := (H.sF.cv M hM).2.2 e he
    rcases h.2 with h | ⟨h1, h | h⟩
    ·lia
    ·lia
    ·refine .inl (.inr ⟨⟨ho.resolve_left fun o => h.1 ?_, fun g => h1 (.inl g)⟩, rfl⟩)
     unfold En.kO
     rw [if_neg (by lia), qH, MX _ hm]
   ·lia
   ·exact .inl (.inr ⟨h.1, rfl⟩)
 ·rw [mem, jb, fp, P9]
  constructor
  ·rintro ((⟨h | ⟨h1, h2, h3⟩, _⟩ | h) | h)
   ·exact .inr (.inl ⟨h, rfl⟩)
   ·obtain ⟨M, hM, e, he, h⟩ := H.ro h3
    refine .inl ⟨M, hM, e, he, fG.mpr ⟨fun g => h2 (.inl (of_decide_eq_true g.2)), .inr ⟨?_, .inl ⟨h, rfl⟩⟩⟩⟩
    rintro (g | ⟨_, g, _⟩)
    ·lia
    ·exact h2 (of_decide_eq_true g)
   ·lia
   ·lia
  ·rintro (⟨M, hM, e, he, h⟩ | h | h)
   ·rw [fG] at h
    rcases h.2 with h | ⟨h1, h2 | h2⟩
    ·lia
    ·refine .inl (.inl ⟨?_, rfl⟩)
     by_cases g : ro = 2
     ·exact .inl g
     ·refine .inr ⟨by lia, fun g2 => h1 (.inr ⟨by lia, decide_eq_true g2, h2.1⟩), H.SO ⟨M, hM, e, he, h2.1⟩⟩
    ·lia
   ·exact .inl (.inl ⟨.inl h.1, rfl⟩)
   ·lia
 ·rw [mem, jb, fp, P9]
  constructor
  ·rintro (h | ⟨⟨h1, h2, h3⟩, _⟩)
   ·lia
   ·obtain ⟨M, hM, e, he, hl, hf, hk⟩ := H.DD h3
    refine .inl ⟨M, hM, e, he, fG.mpr ⟨fun g => h2 (of_decide_eq_true g.2), .inl ⟨⟨hl, ?_⟩, rfl⟩⟩⟩
    unfold En.kO
    rw [if_neg (by lia), qH, hf]
    exact Ha _ hk 0 (by decide)
  ·rintro (⟨M, hM, e, he, h⟩ | h | h)
   ·rw [fG] at h
    rcases h.2 with h2 | ⟨h1, h2 | h2⟩
    ·refine .inr ⟨⟨ho.resolve_right fun o => ?_, fun g => h.1 ⟨h2.1.1, decide_eq_true g⟩, H.O7 ⟨M, hM, e, he, h2.1.1⟩⟩, rfl⟩
     have h3 := h2.1.2
     unfold En.kO at h3
     rw [if_pos o, qH] at h3
     exact Hb _ ((H.sF.cv M hM).2.2 e he) _ 0 (by decide) h3
    ·lia
    ·lia
   ·lia
   ·lia
end
end
section
section
variable {up : Int} {c : Int}
theorem Js (G : pv Ls) (F : yS Ls) (hf : f = 1 \/ f = 2) (hw : 0 <= w /\ w <= 2) (ho : opt = 0 \/ opt = 1) (hr : ro = 0 \/ ro = 1 \/ ro = 2) {c4 c3 c5 : List Int} (g3 : c3 = if ro ≠ 1 then [3] else []) (g4 : c4 = if ro ≠ 1 /\ ¬(ro = 0 /\ w = 0) then [4] else []) (g5 : c5 = if opt = 0 /\ w ≠ 0 then [5] else []) :
  bl ((c5 ++ (c3 ++ c4)) ++ if nul then [15] else []) = cp (dg true w opt ro f Ls) ++ if nul then [15] else [] := by
 subst g4 g3 g5
 have hex : gb f ∈ ([8, 32] : List Int) := by rcases hf with rfl | rfl <;> decide
 have Jb : gb f ∈ ([0, 8, 32] : List Int) := List.mem_cons.mpr (.inr hex)
 generalize hX : gb f = X at hex Jb
 have mem : ∀ c : Int, c ∈ (if opt = 0 /\ w ≠ 0 then [5] else []) ++ ((if ro ≠ 1 then [3] else []) ++ (if ro ≠ 1 /\ ¬(ro = 0 /\ w = 0) then [4] else [])) <->
   (opt = 0 /\ w ≠ 0) /\ c = 5 \/ ((ro ≠ 1) /\ c = 3 \/ (ro ≠ 1 /\ ¬(ro = 0 /\ w = 0)) /\ c = 4) := fun c => by
  rw [List.mem_append, List.mem_append]; exact or_congr bP (or_congr bP bP)
 have qH : ∀ e : En, e.qH = gv e.mask e.free := fun e => rfl
 refine vb (Gw ?_ ?_ ?_) fun h => by rw [mem] at h; lia
 ·rw [mem, jb, fp, hX]
  constructor
  ·intro h
   have h1 : ro ≠ 1 := by lia
   obtain ⟨M, hM, e, he, hl, hc⟩ := F.Ra
   have hm := (G.cv M hM).2.2 e he
   refine .inl ⟨M, hM, e, he, fG.mpr ⟨(fun g => by rw [hl] at g; cases g.1), .inr ⟨?_, .inr ⟨?_, rfl⟩⟩⟩⟩
   ·rintro (g | ⟨_, _, g⟩)
    ·exact h1 g
    ·rw [hc] at g; cases g
   ·unfold En.kO
    split
    ·rw [qH]; exact (G9 _ hm _ _ hex).2
    ·rw [qH]; exact (G9 _ hm _ _ hex).1
  ·rintro (⟨M, hM, e, he, h⟩ | h | h)
   ·rw [fG] at h
    rcases h.2 with h | ⟨h1, h | h⟩
    ·lia
    ·lia
    ·exact .inr (.inl ⟨fun g => h1 (.inl g), rfl⟩)
   ·lia
   ·exact .inr (.inl ⟨h.1.2, rfl⟩)
 ·rw [mem, jb, fp, hX]
  constructor
  ·rintro (h | h | ⟨⟨h1, h2⟩, _⟩)
   ·lia
   ·lia
   ·by_cases g : ro = 2
    ·exact .inr (.inl ⟨g, rfl⟩)
    ·obtain ⟨M, hM, e, he, hl, h⟩ := F.HN
     refine .inl ⟨M, hM, e, he, fG.mpr ⟨(fun g => by rw [hl] at g; cases g.1), .inr ⟨?_, .inl ⟨h, rfl⟩⟩⟩⟩
     rintro (g | ⟨_, g, _⟩)
     ·lia
     ·have := of_decide_eq_true g; lia
  ·rintro (⟨M, hM, e, he, h⟩ | h | h)
   ·rw [fG] at h
    rcases h.2 with h | ⟨h1, h2 | h2⟩
    ·lia
    ·refine .inr (.inr ⟨⟨fun g => h1 (.inl g), fun g => h1 (.inr ⟨g.1, decide_eq_true (.inl g.2), h2.1⟩)⟩, rfl⟩)
    ·lia
   ·exact .inr (.inr ⟨⟨by lia, by lia⟩, rfl⟩)
   ·lia
 ·rw [mem, jb, fp, hX]
  constructor
  ·rintro (⟨⟨h1, h2⟩, _⟩ | h)
   ·obtain ⟨M, hM, e, he, hl, zH, hk⟩ := F.DD
    refine .inl ⟨M, hM, e, he, fG.mpr ⟨fun g => h2 (of_decide_eq_true g.2), .inl ⟨⟨hl, ?_⟩, rfl⟩⟩⟩
    unfold En.kO
    rw [if_neg (by lia), qH, zH]
    exact Ha _ hk _ Jb
   ·lia
  ·rintro (⟨M, hM, e, he, h⟩ | h | h)
   ·rw [fG] at h
    rcases h.2 with h2 | ⟨h1, h2 | h2⟩
    ·refine .inl ⟨⟨ho.resolve_right fun o => ?_, fun g => h.1 ⟨h2.1.1, decide_eq_true g⟩⟩, rfl⟩
     have h3 := h2.1.2
     unfold En.kO at h3
     rw [if_pos o, qH] at h3
     exact Hb _ ((G.cv M hM).2.2 e he) _ _ Jb h3
    ·lia
    ·lia
   ·lia
   ·lia
theorem ud (O : ff L) (M : Match L es c0 c1) : dR (some (es, c0, c1)) = true <-> ∃ e ∈ L, e.dE = true := by
 show (c0.isSome || c1.isSome) = true <-> _
 rw [M.D9, M.hash, Bool.or_eq_true, List.any_eq_true, List.any_eq_true]
 constructor
 ·rintro (⟨e, he, h⟩ | ⟨e, he, h⟩)
  ·exact ⟨e, he, by unfold En.dE; rw [h]; rfl⟩
  ·exact ⟨e, he, by unfold En.dE; rw [h, Bool.or_true]⟩
 ·rintro ⟨e, he, h⟩
  unfold En.dE at h
  rw [Bool.or_eq_true] at h
  exact h.imp (fun h => ⟨e, he, h⟩) fun h => ⟨e, he, h⟩
theorem Bl (O : ff L) (M : Match L es c0 c1) : fY (some (es, c0, c1)) = true <-> ∃ e ∈ L, e.aT = true := by
 show es.any (·.aT) = true <-> _
 have h1 : es.any (·.aT) = (es.map fun e => (e.name, e.free, e.aT)).any (·.2.2) := by rw [List.any_map]; rfl
 have h2 : ((L.filter fun e => !e.dE).map fun e => (e.name, e.free, e.aT)).any (·.2.2) = (L.filter fun e => !e.dE).any (·.aT) := by rw [List.any_map]; rfl
 rw [h1, M.uY, h2, List.any_eq_true]
 constructor
 ·rintro ⟨e, he, h⟩; exact ⟨e, (List.mem_filter.mp he).1, h⟩
 ·rintro ⟨e, he, h⟩
  refine ⟨e, List.mem_filter.mpr ⟨he, ?_⟩, h⟩
  rcases O.ok e he with ⟨g, _⟩ | ⟨_, _, g⟩
  ·unfold En.dE
   rw [beq_false_of_ne (by lia), beq_false_of_ne (by lia)]; rfl
  ·rw [h] at g; cases g
theorem cZ.Gr (C : cZ b0 T m σ s a ra sh Ls nul a7 up) : Hh Ls sh := by
 rcases sh with _ | ⟨es, c0, c1⟩
 ·have F := C.mY rfl
  exact ⟨C.sF, fun _ => F.DD, fun _ => rfl, fun _ => let ⟨M, hM, e, he, _, h⟩ := F.HN; ⟨M, hM, e, he, h⟩, fun _ => rfl⟩
 ·obtain ⟨L, rfl, O, M⟩ := C.s7 es c0 c1 rfl
  have s7 : ∀ {P : En -> Prop}, (∃ M ∈ [L], ∃ e ∈ M, P e) -> ∃ e ∈ L, P e := fun ⟨M, hM, e, he, h⟩ => ⟨e, by rw [List.mem_singleton.mp hM] at he; exact he, h⟩
  refine ⟨C.sF, fun h => ?_, fun h => (ud O M).mpr (s7 h), fun h => let ⟨e, he, g⟩ := (Bl O M).mp h; ⟨L, .head _, e, he, g⟩, fun h => (Bl O M).mpr (s7 h)⟩
  obtain ⟨e, he, g⟩ := (ud O M).mp h
  refine ⟨L, .head _, e, he, g, ?_⟩
  unfold En.dE at g
  rw [Bool.or_eq_true, beq_iff_eq, beq_iff_eq] at g
  rcases O.ok e he with ⟨h | h, _⟩ | ⟨⟨_, h⟩ | ⟨_, h⟩, h2, _⟩
  ·lia
  ·lia
  ·exact ⟨h2, by rw [h]; decide⟩
  ·exact ⟨h2, by rw [h]; decide⟩
end
end
variable {w1 cq D : Nat}
section
structure pB (T : cN) (m : Int) (σ : ag) (b0 s : Nat) (a : Int) (ra : List V) (sh : Sh) (Ls : List (List En)) (nul : Bool) (a7 up w f opt ro : Int) (kB is : List Nat) (ow k j over me mine w1 x cq : Nat) : Prop where
 bO : cZ b0 T m σ s a ra sh Ls nul a7 up
 kj : KJ T s ow k j
 ov : gy T w ow k j is up over
 pm : PM T s w1 me mine over
 cq : T.ak[me]? = some (.ae [.int 10, .int cq])
 xi : M6 T f s w1 me mine x
 Gm : bA T kB is
 nl : kB.length <= 10
 w5 : w = 5 -> is ≠ []
 w6 : w = 6 -> 0 <= up
 f1 : f = 1 \/ f = 2 -> a7 ≠ 4 /\ a7 ≠ 5 /\ w <= 2
 wr : 0 <= w /\ w < 7
 fr : 0 <= f /\ f < 6
 ho : opt = 0 \/ opt = 1 \/ opt = 2
 hr : ro = 0 \/ ro = 1 \/ ro = 2
 Rf : w = 5 -> ∀ es c0 c1, sh = some (es, c0, c1) -> kB = es.map (·.name)
 w9 : w = 5 -> a7 ≠ 9
 M0 : 22 < b0
section
variable {S : cW} {up : Int}
noncomputable def Lu (sh : Sh) (w : Int) : Bool := if sh.isSome then decide (w = 5) else decide (w <= 2)
theorem nA {α : Type} {P Q : Prop} [Decidable P] [Decidable Q] (h : P <-> Q) {a b : α} : ite P a b = ite Q a b := by
 by_cases p : P
 ·rw [if_pos p, if_pos (h.mp p)]
 ·rw [if_neg p, if_neg fun q => p (h.mpr q)]
theorem pB.to {c : Nat} (P : pB T m σ b0 s a ra sh Ls nul a7 up w f opt ro kB is ow k j over me mine w1 x cq) (X : bb c T T') (y : ∀ (b : Nat) o, b0 <= b -> σ[b]? = some o -> σ'[b]? = some o) : pB T' m σ' b0 s a ra sh Ls nul a7 up w f opt ro kB is ow k j over me mine w1 x cq :=
 {P with bO := P.bO.to X y, kj := P.kj.ext X, ov := P.ov.ext X, pm := P.pm.ext X, cq := X.row P.cq, xi := P.xi.ext X, Gm := P.Gm.ext X }
theorem cZ.lf (C : cZ b0 T m σ s a ra sh Ls nul a7 up) (F0 : ∀ b, b0 <= b -> b < σ.length -> vB S b) (F : LF S σ S' σ') : ∀ (b : Nat) o, b0 <= b -> σ[b]? = some o -> σ'[b]? = some o :=
 fun b o hb e => F.old b o e (F0 b hb (dX e))
theorem pB.Kf (P : pB T m σ b0 s a ra sh Ls nul a7 up w f opt ro kB is ow k j over me mine w1 x cq) : ∀ u : Nat, up = u -> u ≠ s := fun u e => by
 rcases P.bO.up with h | ⟨u2, h, _, h2, _⟩
 ·lia
 ·lia
theorem pB.Bh (P : pB T m σ b0 s a ra sh Ls nul a7 up w f opt ro kB is ow k j over me mine w1 x cq) : ∀ es c0 c1, sh = some (es, c0, c1) -> es.length <= 4 := fun es c0 c1 e => by
 obtain ⟨L, rfl, O, M⟩ := P.bO.s7 es c0 c1 e
 have := congrArg List.length M.uY
 rw [List.length_map, List.length_map] at this
 have h2 := List.length_filter_le (fun e : En => !e.dE) L
 have := O.len
 lia
theorem jc : aX nm opt f a7 = true <-> nm = false /\ opt < 2 /\ (f = 0 \/ (f < 3 /\ a7 < 9)) := by
 unfold aX
 cases nm <;> simp
theorem pB.bC {aD : cN} {ah : ag} {c : Nat} (P : pB T m σ b0 s a ra sh Ls nul a7 up w f opt ro kB is ow k j over me mine w1 x cq) (hm : m ≠ 3) (X : bb c T aD) (R : TR aD ah) (hn : Gf ow sh aD wB) : bH aD 14 m over wB (Lu sh w) 63 4 := by
 rcases sh with _ | ⟨es, c0, c1⟩
 ·have e : wB = ow := hn
  subst e
  exact zy R hm (P.kj.ext X) (P.ov.ext X) P.Kf (P.Gm.ext X) P.nl P.w5
 ·obtain ⟨O6, h1, h2⟩ := hn
  exact wJ R hm (P.kj.ext X) (P.ov.ext X) P.Kf (P.Gm.ext X) P.nl P.w5 h1 (by rw [List.length_map]; have := P.Bh es c0 c1 rfl; lia) h2 fun e => P.Rf e es c0 c1 rfl
theorem pB.Hm (P : pB T m σ b0 s a ra sh Ls nul a7 up w f opt ro kB is ow k j over me mine w1 x cq) (R : TR T σ) (h3 : 3 <= f) : x ≠ mine /\ x ≠ 4 /\ PT T x /\ ∃ kx, (kx = 1 \/ kx = 15) /\ cS T x kx := by
 have pI := P.pm.pI
 have p6 := P.pm.EJ
 rcases P.xi with ⟨h, _⟩ | (⟨h, _⟩ | ⟨h, _⟩) | ⟨_, rfl⟩ | ⟨_, JQ, l, hl, hx⟩ | ⟨_, JQ, hx⟩
 ·lia
 ·lia
 ·lia
 ·exact ⟨by lia, by decide, ⟨by decide, 1, _, R.bN (t := 5) rfl, by decide, by decide, by decide, bM (by decide)⟩, 1, .inl rfl, jL R (.inl rfl)⟩
 ·refine ⟨fun e => ?_, by lia, ⟨qc JQ, 15, _, hx, by decide, by decide, by decide, bM (by decide)⟩, 15, .inr rfl, fX hx JQ⟩
  subst e; rw [p6] at hx
  have := V.int.inj (List.cons.inj (List.cons.inj (List.cons.inj (V.ae.inj (Option.some.inj hx))).2).2).1
  lia
 ·refine ⟨fun e => ?_, by lia, ⟨qc JQ, 15, _, hx, by decide, by decide, by decide, bM (by decide)⟩, 15, .inr rfl, fX hx JQ⟩
  subst e; rw [p6] at hx
  have := V.int.inj (List.cons.inj (List.cons.inj (V.ae.inj (Option.some.inj hx))).2).1
  have := P.pm.ws
  lia
theorem pB.J9 (P : pB T m σ b0 s a ra sh Ls nul a7 up w f opt ro kB is ow k j over me mine w1 x cq) (hf : f = 1 \/ f = 2) : ∃ y, (y = 5 \/ y = 7) /\ Gb T x mine y := by
 rcases P.xi with ⟨h, _⟩ | (⟨h, g⟩ | ⟨h, g⟩) | ⟨h, _⟩ | ⟨h, _⟩ | ⟨h, _⟩
 ·lia
 ·exact ⟨5, .inl rfl, g⟩
 ·exact ⟨7, .inr rfl, g⟩
 ·lia
 ·lia
 ·lia
theorem pB.no (P : pB T m σ b0 s a ra sh Ls nul a7 up w f opt ro kB is ow k j over me mine w1 x cq) (L : LS T m B S σ) (hm : m ≠ 3) (hB : B + 100 <= 20000) (hz : T.size + 40 < 999990) (M5 : a ≠ 17) (h3 : 3 <= f) {as : V}
  (q : ∀ aD ax ah, bb 12 T aD -> LS aD m (B + 100) ax ah -> LF S σ ax ah -> ax.az = S.az -> Q (.bool false) ah) : cl (D + 69) 72 [.ref 14, .int s, dh (.int cq) over as (.int x) opt ro] σ Q := by
 have R := L.rr.aO
 obtain ⟨xm, x4, hP, kx, hk, DF⟩ := P.Hm R h3
 have I : vE T m s x opt σ (j2 mine) (Gf ow sh) := ⟨fun _ d Q' q' => DP R (by lia) DF hk hP xm x4 P.pm.pI q', fun _ => .inl ⟨hP, xm⟩, fun X h => h.ext X, fun ts S d Q' R1 q' => t9 (T := T) (by lia) P.bO P.M0 M5 P.kj ts S d Q' R1 q'⟩
 refine I.no (d := D + 60) (c := 63) (c' := 11) (h := 4) (h' := 2) L (by lia) (by lia) (by lia) (by decide) (by decide) P.cq P.pm.EJ (fun aD ah nm X R hn => P.bC hm X R hn) (fun _ aD ah wt X R h => h.Qx hm (X.row P.pm.EJ) P.pm.pI) fun aD ax ah X L2 F2 e2 => q aD ax ah X (L2.up (by lia)) F2 e2
theorem pB.Oj (P : pB T m σ b0 s a ra none Ls nul a7 up w f opt ro kB is ow k j over me mine w1 x cq) (L : LS T m B S σ) (hm : m ≠ 3) (xd : S.aw = true -> m = 1) (hB : B + 100 <= 20000) (hz : T.size + 40 < 999990) (M5 : a ≠ 17) (hf : f = 1 \/ f = 2) {as : V}
  (q : ∀ aD ax ah, bb 12 T aD -> LS aD m (B + 100) ax ah -> LF S σ ax ah -> ax.az = cj S ((if opt = 0 /\ w ≠ 0 then [5] else []) ++ ((if ro ≠ 1 then [3] else []) ++ (if ro ≠ 1 /\ ¬(ro = 0 /\ w = 0) then [4] else []))) -> Q (.bool true) ah) : cl (D + 69) 72 [.ref 14, .int s, dh (.int cq) over as (.int x) opt ro] σ Q := by
 have R := L.rr.aO
 obtain ⟨y, hy, h2⟩ := P.J9 hf
 have w2 := (P.f1 hf).2.2
 obtain ⟨kk, rk, xx, r1, r2, r3, r4, r5, _, _, _⟩ := iG R P.kj P.ov P.Kf P.Gm P.nl P.w5
 have hw := P.wr
 have I : vE T m s x opt σ (pn mine) (Gf ow none) := ⟨fun _ d Q' q' => yV R (by lia) P.pm hy h2 q', fun _ => let ⟨ps, a, b, _⟩ := h2; ⟨ps, a, b⟩, fun X ⟨ps, a, b⟩ => ⟨ps, X.row a, b⟩, fun ts S d Q' R1 q' => t9 (T := T) (by lia) P.bO P.M0 M5 P.kj ts S d Q' R1 q'⟩
 refine I.Oj (d := D + 60) (c := 63) (h := 4) L hm xd (by lia) (by decide) (by lia) (by decide) P.cq P.pm.EJ P.pm.pI P.kj.own P.bO.sort r1 r2 r3 (fun aD ah nm X R hn => ?_) rfl (nA (and_congr Iff.rfl (not_congr (and_congr Iff.rfl ?_)))) (nA (and_congr Iff.rfl (not_congr r5.symm))) fun aD ax ah X L2 F2 e2 => q aD ax ah X (L2.up (by lia)) F2 e2
 ·have := P.bC hm X R hn
  rw [show Lu none w = true from decide_eq_true w2] at this
  exact this
 ·rw [r4]; lia
end
end
section
section
variable {tl : Nat} {S : cW} {up : Int}
theorem pB.own (P : pB T m σ b0 s a ra sh Ls nul a7 up w f opt ro kB is ow k j over me mine w1 x cq) (L : LS T m B S σ) (F0 : ∀ S' σ', LF S σ S' σ' -> dU T σ' s sh) (hB : B + 10 <= 20000) {as : V}
  (q : ∀ ax ah, LS T m (B + 3) ax ah -> LF S σ ax ah -> ax.az = cj S ((if ro = 2 \/ (ro = 0 /\ ¬(w = 0 \/ w = 3) /\ fY sh = true) then [4] else []) ++ (if opt = 1 /\ ro ≠ 1 then [3] else []) ++ (if opt = 0 /\ w ≠ 0 /\ dR sh = true then [5] else [])) -> Q (.bool true) ah) :
  cl (D + 4) 70 [.ref 14, .int s, dh (.int cq) over as (.int x) opt ro] σ Q := by
 obtain ⟨kk, rk, xx, r1, r2, r3, r4, r5, _, _, _⟩ := iG L.rr.aO P.kj P.ov P.Kf P.Gm P.nl P.w5
 exact L.own (d := D) (by lia) P.kj.own P.bO.sort F0 (fun es c0 c1 e => by have := P.Bh es c0 c1 e; lia) r1 r2 r3
  (nA (or_congr Iff.rfl (and_congr Iff.rfl (and_congr (not_congr r4.symm) Iff.rfl)))) rfl (nA (and_congr Iff.rfl (and_congr (not_congr r5.symm) Iff.rfl))) q
theorem u9 {c4 c3 c5 : Prop} [Decidable c4] [Decidable c3] [Decidable c5] : ∀ c ∈ ((if c4 then [4] else []) ++ (if c3 then [3] else []) ++ (if c5 then [5] else []) : List Int) ++ (if nul then [15] else []), c ∈ ([3, 4, 5, 15] : List Int) := fun c h => by
 rw [List.mem_append, List.mem_append, List.mem_append, bP, bP, bP, bP] at h
 rcases h with ((⟨_, rfl⟩ | ⟨_, rfl⟩) | ⟨_, rfl⟩) | ⟨_, rfl⟩ <;> decide
theorem zV {c4 c3 c5 : Prop} [Decidable c4] [Decidable c3] [Decidable c5] : ∀ c ∈ ((if c5 then [5] else []) ++ ((if c3 then [3] else []) ++ (if c4 then [4] else [])) : List Int) ++ (if nul then [15] else []), c ∈ ([3, 4, 5, 15] : List Int) := fun c h => by
 rw [List.mem_append, List.mem_append, List.mem_append, bP, bP, bP, bP] at h
 rcases h with (⟨_, rfl⟩ | ⟨_, rfl⟩ | ⟨_, rfl⟩) | ⟨_, rfl⟩ <;> decide
theorem dN {P : Prop} [Decidable P] {c : Int} : (if P then [c] else []).length <= 1 := by split <;> exact Nat.le_of_ble_eq_true rfl
structure JK (S ax : cW) (lets nul : Bool) (DQ : List Int) : Prop where
 out : ∃ vc, ax.az = cj S vc /\ (lets = false -> vc = []) /\ (lets = true -> bl vc = DQ ++ if nul then [15] else []) /\ (∀ c ∈ vc, c ∈ ([3, 4, 5, 15] : List Int)) /\ vc.length <= 10
theorem pB.ID {xH : ag} (P0 : pB T m xH b0 s a ra sh Ls nul a7 up w f opt ro kB is ow k j over me mine w1 x cq) (L : LS T m B S σ) (F0 : ∀ S' σ', LF S σ S' σ' -> ∀ (b : Nat) o, b0 <= b -> xH[b]? = some o -> σ'[b]? = some o) (hm : m ≠ 3) (xd : S.aw = true -> m = 1) (hB : B + 300 <= 20000) (hz : T.size + 40 < 999990)
  (q : ∀ aD ax ah, bb 12 T aD -> LS aD m (B + 200) ax ah -> LF S σ ax ah -> JK S ax (aX nm opt f a7) nul (cp (dg true w opt ro f Ls)) -> Q (.bool (aX nm opt f a7)) ah) :
  cl (D + 70) 67 [.ref 14, .int s, .ae (.int a :: ra), dh (.int cq) over (.int (if nm then me else -1)) (.int x) opt ro] σ Q := by
 have P := P0.to (σ' := σ) (T' := T) .refl (F0 S σ .refl)
 have pI := P.pm.pI
 refine HE (c := 63) (d := D + 69) L P.bO.emp (fun e Q' q' => ?_) (by lia) fun aU ab L1 F1 e1 => ?_
 ·subst e
  obtain ⟨pa, tv, ov, vv, rfl, h1, h2, h3⟩ := P.bO.Ee rfl
  have h9 : a7 = 9 := by
   rcases P.bO.cls with ⟨_, h, _⟩ | ⟨_, h, _⟩ | ⟨_, _, h⟩
   ·lia
   ·lia
   ·exact h
  have K := h3 0 T σ .refl L.rr.aO hm
  have w6 : w ≠ 6 := fun e => by
   have := P.w6 e
   rcases P.bO.up with h | ⟨u, _, h, _⟩ <;> lia
  obtain ⟨Vt, Vp, g1, g2⟩ := zx L.rr.aO hm P.kj P.ov P.Kf P.Gm P.nl ⟨fun e => P.w9 e h9, w6⟩ h1 h2 K
  exact L.Ee (d := D + 64) hm (by lia) (by lia) (by decide) h1 g1 g2 q'
 have P1 := P0.to (σ' := ab) (T' := T) .refl (F0 aU ab F1)
 have KN : ∀ ax : cW, ax.az = S.az -> aX nm opt f a7 = false -> JK S ax (aX nm opt f a7) nul (cp (dg true w opt ro f Ls)) := fun ax e hl =>
  ⟨[], by rw [e, dA], fun _ => rfl, (fun g => by rw [hl] at g; cases g), (fun _ h => nomatch h), Nat.zero_le _⟩
 have q0 : ∀ aD ax ah (B2 : Nat), B2 <= B + 200 -> bb 12 T aD -> LS aD m B2 ax ah -> LF S σ ax ah -> ax.az = S.az -> aX nm opt f a7 = false -> Q (.bool false) ah := fun aD ax ah B2 hb X L2 F2 e2 hl => by
  have := q aD ax ah X (L2.up hb) F2 (KN ax e2 hl)
  rw [hl] at this; exact this
 have wu : ¬(nm = false /\ opt < 2 /\ (f = 0 \/ (f < 3 /\ a7 < 9))) -> aX nm opt f a7 = false := fun h => by
  cases hl : aX nm opt f a7 with
  | false => rfl
  | true => exact absurd (jc.mp hl) h
 by_cases Fb : nm = true \/ opt = 2
 ·refine HG (Fb.imp (fun e => by rw [e]; exact Int.natCast_nonneg _) id) ?_
  exact q0 T aU ab _ (by lia) (bb.refl.up (by decide)) L1 F1 e1 (wu fun h => by
   rcases Fb with g | g
   ·rw [g] at h; cases h.1
   ·lia)
 have zE : nm = false := by cases nm with | false => rfl | true => exact absurd (.inl rfl) Fb
 have p5 : opt = 0 \/ opt = 1 := by have := P.ho; lia
 subst zE
 have GP : ∀ aD ax ah (z : Option V) (cs : List Int), bb 12 T aD -> LS aD m (B + 163) ax ah -> LF S σ ax ah -> ax.az = cj S cs -> aX false opt f a7 = true -> bl (cs ++ if nul then [15] else []) = cp (dg true w opt ro f Ls) ++ (if nul then [15] else []) -> (∀ c ∈ cs ++ (if nul then [15] else []), c ∈ ([3, 4, 5, 15] : List Int)) -> cs.length <= 3 ->
   WX (cl (D + 69)) bX.body.tl.tl.tl.tl [some (.ref 14), some (.int s), some (.ae (.int a :: ra)), some (dh (.int cq) over (.int (-1)) (.int x) opt ro), z, some (.bool true)] ah (a6 Q) := fun aD ax ah z cs X L2 F2 e2 hl hc jW cQ => by
  refine HJ (d := D + 68) L2 (by lia) (fun Q' q' => P.bO.nul _ aD ah X L2.rr.aO (D + 63) Q' q') (by lia) fun cG aA L3 F3 e3 => ?_
  have := q aD cG aA X (L3.up (by lia)) (F2.trans F3) ⟨_, e3.trans (eA F2.aw F2.dW e2), (fun g => by rw [hl] at g; cases g), fun _ => hc, jW, by rw [List.length_append]; have := dN (P := nul = true) (c := 15); lia⟩
  rw [hl] at this; exact this
 show WX (cl (D + 66 + 3)) _ _ _ _
 refine HI (d := D + 66) (me := me) (mine := mine) L1.rr (show (-1 : Int) < 0 by decide) (fun e => Fb (.inr e)) P.cq P.pm.EJ (fun hx => ?_) fun hx => ⟨fun NX => ?_, fun NX => ?_⟩
 ·have f0 : f = 0 := by
   rcases P.xi with ⟨h, _⟩ | (⟨h, g⟩ | ⟨h, g⟩) | ⟨h, g⟩ | ⟨h, g⟩ | ⟨h, g⟩
   ·exact h
   ·obtain ⟨ps, hr, _⟩ := g; exact absurd hx (b5 hr P.pm.EJ (by decide))
   ·obtain ⟨ps, hr, _⟩ := g; exact absurd hx (b5 hr P.pm.EJ (by decide))
   ·lia
   ·exact absurd hx (P.Hm L.rr.aO (by lia)).1
   ·exact absurd hx (P.Hm L.rr.aO (by lia)).1
  have hl : aX false opt f a7 = true := jc.mpr ⟨rfl, by lia, .inl f0⟩
  refine P1.own (D := D + 65) L1 (fun S' σ' F' => P0.bO.MQ σ' (F0 S' σ' (F1.trans F'))) (by lia) fun ax ah L2 F2 e2 => ?_
  refine GP T ax ah _ _ (bb.refl.up (by decide)) (L2.up (by lia)) (F1.trans F2) (e2.trans (by unfold cj; rw [F1.aw, F1.dW, e1])) hl ?_ u9 (by rw [List.length_append, List.length_append]; have := dN (P := ro = 2 \/ (ro = 0 /\ ¬(w = 0 \/ w = 3) /\ fY sh = true)) (c := 4); have := dN (P := opt = 1 /\ ro ≠ 1) (c := 3); have := dN (P := opt = 0 /\ w ≠ 0 /\ dR sh = true) (c := 5); lia)
  rw [f0]
  exact yK P.bO.Gr p5 P.hr rfl rfl rfl
 ·refine q0 T aU ab _ (by lia) (bb.refl.up (by decide)) L1 F1 e1 (wu fun h => ?_)
  rcases h.2.2 with f0 | ⟨_, h9⟩
  ·rcases P.xi with ⟨_, g⟩ | (⟨g, _⟩ | ⟨g, _⟩) | ⟨g, _⟩ | ⟨g, _⟩ | ⟨g, _⟩
   ·exact hx g
   all_goals lia
  ·rcases P.bO.cls with ⟨_, h, _⟩ | ⟨_, h, _⟩ | ⟨_, _, h⟩ <;> lia
 ·have zH := P.fr
  have f0 : f ≠ 0 := fun f0 => by
   rcases P.xi with ⟨_, g⟩ | (⟨g, _⟩ | ⟨g, _⟩) | ⟨g, _⟩ | ⟨g, _⟩ | ⟨g, _⟩
   ·exact hx g
   all_goals lia
  by_cases hf : f = 1 \/ f = 2
  ·have g := P.f1 hf
   have hsh : sh = none /\ a7 < 9 := by
    rcases P.bO.cls with ⟨h, _, _, _, h9⟩ | ⟨_, _, h⟩ | ⟨_, h, _⟩
    ·exact ⟨h, h9⟩
    ·lia
    ·exact absurd h NX
   obtain ⟨rfl, h9⟩ := hsh
   have hl : aX false opt f a7 = true := jc.mpr ⟨rfl, by lia, .inr ⟨by lia, h9⟩⟩
   refine P1.Oj (D := D) L1 hm (fun h => xd (by rw [<- F1.aw]; exact h)) (by lia) hz NX hf fun aD ax ah X L2 F2 e2 => ?_
   refine GP aD ax ah _ _ X (L2.up (by lia)) (F1.trans F2) (e2.trans (by unfold cj; rw [F1.aw, F1.dW, e1])) hl (Js P.bO.sF (P.bO.mY rfl) hf ⟨P.wr.1, g.2.2⟩ p5 P.hr rfl rfl rfl) zV (by rw [List.length_append, List.length_append]; have := dN (P := opt = 0 /\ w ≠ 0) (c := 5); have := dN (P := ro ≠ 1) (c := 3); have := dN (P := ro ≠ 1 /\ ¬(ro = 0 /\ w = 0)) (c := 4); lia)
  ·refine P1.no (D := D) L1 hm (by lia) hz NX (by lia) fun aD ax ah X L2 F2 e2 => ?_
   refine HH (q0 aD ax ah _ (by lia) X L2 (F1.trans F2) (e2.trans e1) (wu fun h => by lia))
end
end
variable {g : Nat} {ax : cW} {lets : Bool}
section
structure Nk (g : Nat) (S ax : cW) (lets : Bool) (X : List Int) : Prop where
 out : ∃ cs, ax.az = cj S cs /\ (lets = false -> cs = []) /\ (g ≠ 0 -> lets = true -> bl cs = X) /\ (∀ c ∈ cs, c ∈ ([3, 4, 5, 15] : List Int)) /\ cs.length <= 10 * g
section
variable {S : cW} {X DQ NZ : List Int}
theorem qY {c : Int} (hc : c ∈ ([3, 4, 5, 15] : List Int)) : c ∈ bl cs <-> c ∈ cs := by
 unfold bl
 rw [List.mem_filter, decide_eq_true_iff]
 exact ⟨fun h => h.2, fun h => ⟨hc, h⟩⟩
theorem zW (h : bl cs = X) (h' : bl NZ = X) : bl (cs ++ NZ) = X := by
 rw [<- h]
 unfold bl
 refine List.filter_congr fun c hc => decide_eq_decide.mpr ?_
 rw [List.mem_append]
 exact ⟨fun g => g.elim id fun g => (qY hc).mp (by rw [h, <- h']; exact (qY hc).mpr g), .inl⟩
theorem Nk.step (A : Nk g S S' lets X) (F : LF S σ S' σ') (h : JK S' ax lets nul DQ) (e : X = DQ ++ if nul then [15] else []) : Nk (g + 1) S ax lets X := by
 obtain ⟨cs, h1, h2, h3, h4, h5⟩ := A
 obtain ⟨NZ, g1, g2, g3, g4, g5⟩ := h
 refine ⟨cs ++ NZ, g1.trans (eA F.aw F.dW h1), fun l => by rw [h2 l, g2 l]; rfl, fun _ l => ?_, fun c hc => (List.mem_append.mp hc).elim (h4 c) (g4 c), by rw [List.length_append]; lia⟩
 have e2 := (g3 l).trans e.symm
 by_cases z : g = 0
 ·subst z
  have : cs = [] := List.length_eq_zero_iff.mp (by lia)
  rw [this]; exact e2
 ·exact zW (h3 z l) e2
theorem iW : ∀ {l : List Int}, (l.map V.int).all (V.a5 4) = true
 | [] => rfl
 | _ :: _ => (List.all_cons ..).trans (Bool.and_eq_true_iff.mpr ⟨rfl, iW⟩)
theorem Gx {l l' : List Int} : l.map V.int = l'.map V.int <-> l = l' := ⟨fun h => List.map_inj_right (fun _ _ e => V.int.inj e) |>.mp h, fun h => by rw [h]⟩
theorem tG {ρ : Env} {old : List V} {l : List Int} (R : RR T 14 m S σ) (h2 : oh ρ 2 fun v => v = .ref 14) (UO : oh ρ 29 fun v => v = .int old.length) (hn : S.az = old ++ lL S.dW l) (hl : l.length <= 1000) (hc : ∀ c ∈ l, c ∈ ([3, 4, 5, 15] : List Int)) (q : ∀ σ' f, aV σ σ' -> σ'[f]? = some (.list ((bl l).map .int)) -> Q (.ref f) σ') :
  WE (cl (d + 1)) ρ (.call 88 (.cons (.from (.ar (.ar (.aa 2) 136) 4) (.aa 29)) (.cons (.ar (.aa 2) 39) .nil))) σ Q := by
 refine dM ?_ _ _ h2
 rintro _ rfl
 refine fM R.cO ?_
 refine fM R.no ?_
 refine dM ?_ _ _ UO
 rintro _ rfl
 refine Kx R.nr ?_
 refine dM ?_ _ _ h2
 rintro _ rfl
 refine fM (aH R.cO) ?_
 exact CV (d := d) (by rw [hn, List.drop_left]; exact ay) hl hc fun σ' f K _ hf => q σ' f (aV.push.trans K) hf
end
end
variable {wl ll : Nat}
section
section
variable {tl : Nat} {S : cW} {up : Int} {tell : Bool}
theorem CO (h2 : lets = false -> cs = []) (h3 : lets = true -> bl cs = cp (dg true w opt ro f Ls) ++ if nul then [15] else []) : bl (if tell then cs else []) = cp (dg (lets && tell) w opt ro f Ls) ++ if lets && (tell && nul) then [15] else [] := by
 have w0 : cp (dg false w opt ro f Ls) = [] := rfl
 cases tell with
 | false => rw [Bool.and_false, Bool.false_and, Bool.and_false, w0]; rfl
 | true =>
  cases lets with
  | false => rw [h2 rfl, Bool.false_and, Bool.false_and, w0]; rfl
  | true => exact h3 rfl
theorem qv (F : LF S σ S' σ') (h : S'.az = cj S cs) : S'.az = S.az ++ lL S'.dW (if S.aw then cs else []) := by
 rw [h, F.dW]
 unfold cj
 split
 ·rfl
 ·exact (List.append_nil _).symm
theorem CN (h : ∀ c ∈ cs, c ∈ ([3, 4, 5, 15] : List Int)) : ∀ c ∈ (if tell then cs else []), c ∈ ([3, 4, 5, 15] : List Int) := by
 split
 ·exact h
 ·exact fun _ h => nomatch h
theorem yI {b : Nat} (h : cs.length <= b) : (if tell then cs else []).length <= b := by
 split
 ·exact h
 ·exact Nat.zero_le _
theorem Ax {l : List Int} : (cp l).length <= 3 := List.length_filter_le _ _
structure QP where
 (y : Option V) (T : cN) (S : cW)
theorem FL {e4 e5 e6 e7 e8 ea eb ec ed ee ef eg eh ei ej ek el em en RY : Option V} (P : pB T m σ b0 s a ra sh Ls nul a7 up w f opt ro kB is ow k j over me mine w1 x cq) (L : LS T m B S σ) (F0 : ∀ b, b0 <= b -> b < σ.length -> vB S b) (hm : m ≠ 3) (xd : S.aw = true -> m = 1) (hB : B + 900 <= 20000) (hz : T.size + 100 < 999990) (Pa : b0 <= wl) (I8 : b0 <= ll)
  (hw : σ[wl]? = some (.list ((cp (dg (aX nm opt f a7 && S.aw) w opt ro f Ls)).map .int))) (hl : σ[ll]? = some (.list ((if aX nm opt f a7 && (S.aw && nul) then [15] else []).map .int)))
  (q : ∀ T' S' σ', bb 24 T T' -> LS T' m (B + 500) S' σ' -> LF S σ S' σ' -> Q (.bool true) σ') :
  WX (cl (D + 70)) bz.body.tl.tl.tl.tl.tl.tl.tl.tl.tl.tl.tl.tl.tl.tl.tl.tl.tl.tl.tl.tl.tl.tl.tl.tl.tl.tl.tl [some (.ref 3), some (.ref 4), some (.ref 14), some (.int s), e4, e5, e6, e7, e8, some (.int f), ea, eb, ec, ed, ee, ef, eg, eh, ei, ej, ek, el, em, en, some (dh (.int cq) over (.int (if nm then me else -1)) (.int x) opt ro), some (.bool (aX nm opt f a7)), RY, some (.ref wl), some (.ref ll), some (.int S.az.length), none, none, none] σ (a6 Q) := by
 have qB : ∀ {S' σ'} (b : Nat), LF S σ S' σ' -> b0 <= b -> ∀ o, σ[b]? = some o -> σ'[b]? = some o := fun b F hb o e => F.old b o e (F0 b hb (dX e))
 refine cT.cv (fun i : Nat => .int i) .pH (fB 2) (List.range 2) (fun i : QP => [some (.ref 3), some (.ref 4), some (.ref 14), some (.int s), e4, e5, e6, e7, e8, some (.int f), ea, eb, ec, ed, ee, ef, eg, eh, ei, ej, ek, el, em, en, some (dh (.int cq) over (.int (if nm then me else -1)) (.int x) opt ro), some (.bool (aX nm opt f a7)), RY, some (.ref wl), some (.ref ll), some (.int S.az.length), i.y, none, none])
  (fun dn _ i σ' => bb (12 * dn.length) T i.T /\ LS i.T m (B + 200 * dn.length) i.S σ' /\ LF S σ i.S σ' /\ Nk dn.length S i.S (aX nm opt f a7) (cp (dg true w opt ro f Ls) ++ if nul then [15] else [])) ⟨by decide, ?_⟩ ?_ ?_
 ·refine .cn (by rfl) (QP.mk _ T S) ?_
  exact ⟨.refl, L, .refl, [], dA.symm, fun _ => rfl, (fun h => absurd rfl h), (fun _ h => nomatch h), Nat.le_refl _⟩
 ·rintro dn y td ⟨y0, aZ, aU⟩ ab iN J
  have hg : dn.length + 1 <= 2 := eC iN
  have p7 : (dn ++ [y]).length = dn.length + 1 := List.length_append
  have X1 : bb (12 * dn.length) T aZ := J.1
  have L1 : LS aZ m (B + 200 * dn.length) aU ab := J.2.1
  have F1 : LF S σ aU ab := J.2.2.1
  have A1 : Nk dn.length S aU (aX nm opt f a7) _ := J.2.2.2
  have h4 := L1.rr.aO.aO
  have sz := X1.size
  refine fM h4 ?_
  refine aG (aI L1.rr.aO (X1.row P.bO.hs)) ?_
  refine (P.to X1 (fun _ _ _ e => e)).ID (D := D) L1 (fun S' σ' F b o hb e => qB b (F1.trans F) hb o e) hm (fun h => xd (by rw [<- F1.aw]; exact h)) (by lia) (by lia) fun aD ax ah X2 L2 F2 OF => ?_
  refine cY (by cases aX nm opt f a7 <;> rfl) ?_
  have Oe := F1.trans F2
  have A2 := A1.step F1 OF rfl
  obtain ⟨cs, h1, h2, h3, NM, h5⟩ := A2
  refine tG (d := D + 69) (old := S.az) (l := if S.aw then cs else []) L2.rr (by exact rfl) (by exact rfl) (qv Oe h1) (Nat.le_trans (yI h5) (by lia)) (CN NM) fun aA fn K hf => ?_
  have L3 := L2.keep K
  have J7 := Oe.trans (K.lf)
  have Tt := qB wl J7 Pa _ hw
  have Nx := qB ll J7 I8 _ hl
  have Sv := Ax (l := dg (aX nm opt f a7 && S.aw) w opt ro f Ls)
  have Ta := dN (P := (aX nm opt f a7 && (S.aw && nul)) = true) (c := 15)
  refine vk (gU Tt Nx (by rw [List.length_map, List.length_map]; lia)) ?_
  have K3 : aV aA (aA ++ [.list ((cp (dg (aX nm opt f a7 && S.aw) w opt ro f Ls)).map V.int ++ (if aX nm opt f a7 && (S.aw && nul) then [15] else []).map V.int)]) := .push
  have e : bl (if S.aw then cs else []) = cp (dg (aX nm opt f a7 && S.aw) w opt ro f Ls) ++ if aX nm opt f a7 && (S.aw && nul) then [15] else [] := CO h2 (h3 (by lia))
  refine dD (.ne (nE (aH hf) ay iW (by rw [<- List.map_append]; exact iW))) (cY ?_ ?_)
  ·rw [e, List.map_append, decide_eq_true rfl]; rfl
  refine ⟨trivial, .next iN (QP.mk _ aD ax) ?_⟩
  rw [p7]
  exact ⟨(X1.trans X2).up (by lia), (L3.keep K3).up (by lia), J7.trans K3.lf, ⟨cs, h1, h2, h3, NM, h5⟩⟩
 ·rintro ⟨y0, aZ, aU⟩ ab J
  have X1 : bb 24 T aZ := J.1
  have L1 : LS aZ m (B + 400) aU ab := J.2.1
  have F1 : LF S σ aU ab := J.2.2.1
  have sz := X1.size
  refine Gl (b1 := decide (0 < f)) (b2 := !aX nm opt f a7) (fun _ q => q) (fun _ q => q) (jV (fun e => ?_) (fun e => ?_))
  ·skip
   exact q aZ aU ab (X1.up (by decide)) (L1.up (by lia)) F1
  rw [Bool.or_eq_false_iff, decide_eq_false_iff_not, Bool.not_eq_false'] at e
  have f0 : f = 0 := by have := P.fr; lia
  have hl := (jc.mp e.2)
  refine fM L1.rr.cO ?_
  refine fM L1.rr.no ?_
  refine b3 L1.rr.nr ?_
  refine (P.to (σ' := ab) X1 (fun b o hb e => qB b F1 hb o e)).own (D := D + 66) L1 (fun S' σ' F' => ((P.bO.MQ σ' fun b o hb e => qB b (F1.trans F') hb o e).ext X1)) (by lia) fun ax ah L2 F2 e2 => ?_
  have Oe := F1.trans F2
  refine tG (d := D + 69) (old := aU.az) L2.rr (by exact rfl) (by exact rfl) (qv F2 e2) (Nat.le_trans (yI (b := 10) ?_) (by decide)) (CN fun c hc => u9 (nul := false) c (List.mem_append.mpr (.inl hc))) fun aA fn K hf => ?_
  ·rw [List.length_append, List.length_append]
   have := dN (P := ro = 2 \/ (ro = 0 /\ ¬(w = 0 \/ w = 3) /\ fY sh = true)) (c := 4); have := dN (P := opt = 1 /\ ro ≠ 1) (c := 3); have := dN (P := opt = 0 /\ w ≠ 0 /\ dR sh = true) (c := 5); lia
  have J7 := Oe.trans K.lf
  refine dD (nE hf (qB wl J7 Pa _ hw) iW iW) ?_
  have p5 : opt = 0 \/ opt = 1 := by have := P.ho; lia
  have e4 := CO (cs := (if ro = 2 \/ (ro = 0 /\ ¬(w = 0 \/ w = 3) /\ fY sh = true) then [4] else []) ++ (if opt = 1 /\ ro ≠ 1 then [3] else []) ++ (if opt = 0 /\ w ≠ 0 /\ dR sh = true then [5] else [])) (tell := aU.aw) (nul := false) (lets := aX nm opt f a7) (w := w) (opt := opt) (ro := ro) (f := f) (Ls := Ls) (fun g => by rw [e.2] at g; cases g) fun _ => by
   rw [f0]; exact (congrArg bl (List.append_nil _).symm).trans (yK (nul := false) P.bO.Gr p5 P.hr rfl rfl rfl)
  have e5 := e4.trans (show _ = cp (dg (aX nm opt f a7 && aU.aw) w opt ro f Ls) from by rw [Bool.and_false, Bool.and_false]; exact List.append_nil _)
  rw [e5, F1.aw, decide_eq_true rfl]
  exact q aZ ax aA (X1.up (by decide)) ((L2.keep K).up (by lia)) J7
end
end
section
section
variable {tl : Nat} {S : cW} {up : Int}
theorem LS.fresh (L : LS T m B S σ) {b : Nat} (h : σ.length <= b) (jn : 22 < σ.length) : vB S b := by
 have h1 := (dX L.rr.tr)
 refine ⟨.inr (by lia), ⟨by lia, by lia, by lia, by lia, by lia⟩, fun k hk => .inr ?_⟩
 rcases L.tw with e | ⟨k', ax, e, R, _⟩
 ·rw [e] at hk; cases hk
 ·rw [e] at hk; cases hk
  have := (dX R.nr)
  lia
theorem LS.Rj (L : LS T m B S σ) {b : Nat} (h : b < 5) : vB S b := by
 have := L.rr.nC
 refine ⟨.inl h, ⟨by lia, by lia, by lia, by lia, by lia⟩, fun k hk => .inl ?_⟩
 rcases L.tw with e | ⟨k', ax, e, _, _, _, _, _, _, h2, _⟩
 ·rw [e] at hk; cases hk
 ·rw [e] at hk; cases hk; lia
theorem KW (O : ff L) (M : Match L es c0 c1) : pq L = es.map (·.name) := by
 have e := congrArg (List.map (·.1)) M.uY
 rw [List.map_map, List.map_map] at e
 unfold pq
 refine Eq.trans ?_ e.symm
 refine congrArg _ (List.filter_congr fun x hx => ?_)
 unfold En.dE
 rcases O.ok x hx with ⟨h, _⟩ | ⟨h, _⟩
 ·rw [decide_eq_true h, beq_false_of_ne (by lia), beq_false_of_ne (by lia)]; rfl
 ·rw [decide_eq_false (by lia)]
  rcases h with ⟨h, _⟩ | ⟨h, _⟩
  ·rw [h]; rfl
  ·rw [h]; rfl
theorem xO {L : List En} {a7 : Int} (h : L.length <= 10) : (qk a7 L).length <= 10 := by
 unfold qk pq
 split
 ·rw [List.length_map]; exact Nat.le_trans (List.length_filter_le _ _) h
 ·exact Nat.zero_le _
theorem Dd (L : LS T m B S σ) (D0 : DS xs pos T σ) (hx : ∀ v ∈ xs, ∃ z : Int, v = .int z) (jn : 22 < σ.length) (hm : m ≠ 3) (xd : S.aw = true -> m = 1) (hB : B + 900 <= 20000) (hz : T.size + 400 < 999990)
  (q : ∀ cI T' S' σ', T'.size <= T.size + 200 -> LS T' m (B + 500) S' σ' -> DS xs cI T' σ' -> 22 < σ'.length -> S'.aw = S.aw -> Q (.bool true) σ') : cl (D + 71) 89 [.ref 3, .ref 4, .ref 14] σ Q := by
 refine FT (d := D + 63) (m := m) D0 jn (by lia) hx fun nX aZ ab s r a ra sh Ls nul a7 up w f opt ro nm X1 hw hs w0 w7 f0 f6 p5 RC RB => ?_
 have Vo := X1.ext.size
 obtain ⟨L0, Od, rfl⟩ : ∃ L0 Od, Ls = L0 :: Od := by
  cases Ls with
  | cons a l => exact ⟨a, l, rfl⟩
  | nil =>
   rcases sh with _ | ⟨es, c0, c1⟩
   ·obtain ⟨M, hM, _⟩ := (hs.mY rfl).DD; cases hM
   ·obtain ⟨L, h, _⟩ := hs.s7 es c0 c1 rfl; cases h
 obtain ⟨g1, g2, _⟩ := hs.sF.cv L0 (.head _)
 refine FQ (d := D + 69) X1.ds.tr (by lia) hw g2 g1 w0 w7 f0 f6 fun aD ah is tl w f gm ht hi TC w0 w7 f0 f6 w5 w6 J1 => ?_
 have Vn := gm.ext.size
 have zJ : 22 < ab.length := Nat.lt_of_lt_of_le jn X1.fr.len
 refine FP (d := D + 66) gm.tr (by lia) (gm.ext.row hs.hs) hs.pG (hs.up.imp id fun ⟨u, e, _, h⟩ => ⟨u, e, h⟩) w0 w7 ht (xO g1) hi (by lia) w6 fun eP aA ow k j fr over gG kj ov Nv => ?_
 have Vm := gG.ext.size
 refine FO (d := D + 66) gG.tr (by lia) hs.pG (gG.tr.lt ((gm.ext.trans gG.ext).row hs.hs)) f0 f6 (gG.tr.lt kj.own) Nv fun dj bc w1 me mine x y1 y2 cH pm xi => ?_
 have Vl := cH.ext.size
 have Nl := gm.trans (gG.trans cH)
 have X4 := X1.trans (Nl.ss X1.ds)
 have L4 := L.ss X4
 obtain ⟨cq, RF, LR⟩ := pm.Rh
 refine FN (d := D + 66) (nul := nul) L4.rr RF (hw.keep Nl.fr.hf.gX) hs.sF f0 f6 fun bg dn wl ll K Pa I8 LI yy => ?_
 have L5 := L4.keep K
 have s5 : cZ σ.length dj m bg s a ra sh (L0 :: Od) nul a7 up := (hs.to Nl.ext (Nl.fr.hf.from jn)).to .refl (K.hf.from jn)
 have OX : σ.length <= bg.length := Nat.le_trans X4.fr.len K.len
 have P : pB dj m bg σ.length s a ra sh (L0 :: Od) nul a7 up w f opt ro (qk a7 L0) is ow k j over me mine w1 x cq :=
  {bO := s5, kj := kj.ext cH.ext, ov := ov.ext cH.ext, pm := pm, cq := RF, xi := xi, Gm := ht.ext (gG.ext.trans cH.ext), nl := xO g1, w5 := w5, w6 := w6, f1 := J1, wr := ⟨w0, w7⟩, fr := ⟨f0, f6⟩, ho := p5, hr := by lia
   Rf := fun e es c0 c1 e2 => by
    obtain ⟨L1, h1, O, M⟩ := hs.s7 es c0 c1 e2
    cases h1
    rcases hs.cls with ⟨h, _⟩ | ⟨_, _, h⟩ | ⟨h, _⟩
    ·rw [e2] at h; cases h
    ·unfold qk; rw [if_pos (by lia)]; exact KW O M
    ·rw [e2] at h; cases h
   w9 := fun e h9 => w5 e (by
    have : qk a7 L0 = [] := by unfold qk; rw [if_neg (by lia)]
    rw [this] at ht
    cases is with
    | nil => rfl
    | cons => exact ht.elim)
   M0 := jn }
 have D5 := (X4.keep K).ds
 have Vk : dj.size <= T.size + 110 := by lia
 have VE := X4.fr.len
 refine FL (D := D) P L5 (fun b hb fP => L.fresh hb jn) hm xd hB (by lia) (by lia) (by lia) LI yy fun T' S' σ' X L' F => ?_
 have sz := X.size
 exact q _ T' S' σ' (by lia) L' ⟨L'.rr.aO, F.old _ _ D5.d3 (L5.Rj (by decide)), F.old _ _ D5.d2 (L5.Rj (by decide))⟩ (Nat.lt_of_lt_of_le jn (Nat.le_trans OX F.len)) F.aw
end
end
variable {o1 : aN}
section
noncomputable def D8 : cN := ⟨aQ, [.none], [], [], []⟩
noncomputable def Kk (l : List V) : List aN := [.aF 0 xT, .list l, .dict .ae (bR 0 l), .list [.none], .list [], .list [], .list [], .dict .int [], .dict .int []]
noncomputable def kh : List aN := Kk aQ
section
variable {o0 o2 o3 : aN}
theorem iO : aQ.Nodup := by decide +kernel
theorem oL : ∀ r ∈ aQ, r.kind = some .ae := by decide +kernel
theorem OL {l : List V} {row : V} (h4 : σ[4]? = some (.aF 0 xT)) (h5 : σ[5]? = some (.list l)) (h6 : σ[6]? = some (.dict .ae (bR 0 l))) (hk : row.kind = some .ae) (hm : row ∉ l) (hl : l.length < 1000000)
  (q : Q (.int l.length) ((σ.set 5 (.list (l ++ [row]))).set 6 (.dict .ae (bR 0 (l ++ [row]))))) : cl (d + 1) 3 [.ref 4, row] σ Q := by
 have hn := kM 0 l row hm
 refine eD ?_
 cbv
 refine dD (cK h6 hk) (cY (by rw [hn]; rfl) ?_)
 cbv
 refine b3 h5 ?_
 cbv
 refine cw h5 hl ?_
 have g4 := (au (o := .list (l ++ [row])) (show 5 ≠ 4 by decide)).trans h4
 have g6 := (au (o := .list (l ++ [row])) (show 5 ≠ 6 by decide)).trans h6
 cbv
 refine dI (cg g6 hk (by rw [sx]; exact hl)) ?_
 have hi : cP (bR 0 l) row (.int (l.length : Nat)) = bR 0 (l ++ [row]) := by
  unfold cP; rw [hn, sy, Nat.zero_add]; rfl
 rw [hi]
 exact q
theorem za (q : Q (.ref 4) (o0 :: o1 :: o2 :: o3 :: kh)) : BL (cl (d + 2)) 0 Q [] [o0, o1, o2, o3] := by
 refine kL (a := .ref 4) ?_
 refine bG (σ := [o0, o1, o2, o3]) (by rfl) (by rfl) ?_
 refine bG (σ := [o0, o1, o2, o3]) (by rfl) (by rfl) ?_
 refine bG (σ := [o0, o1, o2, o3]) (by rfl) (by rfl) ?_
 refine bG (σ := [o0, o1, o2, o3]) (by rfl) (by rfl) ?_
 refine bG (σ := [o0, o1, o2, o3]) (by rfl) (by rfl) ?_
 refine bG (σ := [o0, o1, o2, o3]) (by rfl) (by rfl) ?_
 refine bG (σ := [o0, o1, o2, o3]) (by rfl) (by rfl) ?_
 refine bG (σ := [o0, o1, o2, o3]) (by rfl) (by rfl) ?_
 refine c8 (σ := [o0, o1, o2, o3]) (by rfl) (by rfl) ?_
 refine c8 (σ := [o0, o1, o2, o3]) (by rfl) (by rfl) ?_
 refine cT.cv id (.seq (.ae aQ)) aQ aQ (fun i : E8 => [some (.ref 4), i.a]) (fun dn _ _ σ' => o0 :: o1 :: o2 :: o3 :: Kk dn = σ') ?_ ?_ ?_
 ·change Ah _ _ _ _ _ _ _ _ _ _ _
  exact .cn (List.map_id _).symm E8.o rfl
 ·rintro dn x td i _ hm rfl
  have s9 := iO
  have cQ : dn.length + 1 <= 16 := eC hm
  rw [<- hm] at s9
  refine qZ (fs := xT) (by rfl) rfl ?_
  refine OL (l := dn) (by rfl) (by rfl) (by rfl) (oL x (qy hm)) (fun h => (List.nodup_append.mp s9).2.2 x h x (.head _) rfl) (by lia) ?_
  exact ⟨rfl, .next hm (E8.p _) rfl⟩
 ·rintro i _ rfl
  exact q
theorem Fu : (aQ.all fun r => match r with | .ae (.int 10 :: _) => false | _ => true) = true := rfl
theorem D7 : TR D8 (o0 :: o1 :: o2 :: o3 :: kh) where
 aO := rfl
 ak := rfl
 ib := rfl
 aK := rfl
 ao := rfl
 bk := rfl
 names := rfl
 first := List.prefix_refl _
 IH := rfl
 IG := rfl
 nodup := iO
 a5 := oL
 rM := fun t cq h => by
  have h : aQ[t]? = some (.ae [.int 10, cq]) := h
  have h2 := List.all_eq_true.mp Fu _ (List.mem_of_getElem? h)
  cases h2
 y7 := fun t ps h p hp => by
  have h : aQ[t]? = some (.ae [.int 6, .ae ps]) := h
  have h2 := List.all_eq_true.mp xn _ (List.mem_of_getElem? h)
  have h2 : V.beq (.ae [.int 6, .ae ps]) (.ae [.int 6, .ae [.int 8, .int 9]]) = true := h2
  have e2 : ps = [.int 8, .int 9] := V.ae.inj (List.cons.inj (List.cons.inj (V.ae.inj ((V.eI _ _).mp h2))).2).1
  subst e2
  have h3 : aQ[12]? = some (.ae [.int 6, .ae [.int 8, .int 9]]) := rfl
  have e3 := (List.getElem?_inj (dX h) iO).mp (h.trans h3.symm)
  subst e3
  rcases List.mem_cons.mp hp with rfl | hp
  ·exact ⟨8, rfl, by decide⟩
  ·rw [List.mem_singleton.mp hp]; exact ⟨9, rfl, by decide⟩
end
end
section
noncomputable def kD (m : Int) (tell : Bool) : cW := ⟨18, [], [], [], 0, 0, [], tell, .none, 0⟩
section
variable {S : cW} {o2 : aN}
theorem Cj (q : Q (.ref σ.length) (σ ++ [.aF 2 dQ])) : BL (cl (d + 1)) 2 Q [.ref 4] σ := by
 refine so ?_
 refine c8 (by rfl) (by rfl) ?_
 refine c8 (by rfl) (by rfl) ?_
 refine c8 (by rfl) (by rfl) ?_
 refine c8 (by rfl) (by rfl) ?_
 refine c8 (by rfl) (by rfl) ?_
 exact q
theorem KT (q : Q (.ref σ.length) (σ ++ [.aF 5 []])) : BL (cl d) 5 Q [] σ := q
theorem EU (NN : σ.length = 13) (R : TR T σ) {tell : Bool} :
  let ab := σ ++ [aN.aF 2 dQ]
  let ah := ab ++ eB 14 m
  let aA := (ah ++ [aN.aF 5 []]).set 15 (.dict .int [(.int 2, .ref 22)])
  LS T m 0 (kD m tell) (aA.set 14 (.aF 3 (bj 14 m (kD m tell)))) := by
 intro ab ah aA
 have l3 : aA.length = 23 := by
  show (List.set _ _ _).length = _
  rw [List.length_set, List.length_append, List.length_append, List.length_append, NN]; rfl
 have e : ∀ i : Nat, (ah ++ [aN.aF 5 []])[13 + i]? = ([.aF 2 dQ] ++ eB 14 m ++ [aN.aF 5 []])[i]? := fun i => by
  rw [<- NN]
  show ((σ ++ _) ++ _ ++ _)[_]? = _
  rw [List.append_assoc, List.append_assoc]
  exact cF i
 have g : ∀ (i : Nat) (o : aN), i ≠ 1 -> i ≠ 2 -> ([.aF 2 dQ] ++ eB 14 m ++ [aN.aF 5 []])[i]? = some o -> (aA.set 14 (.aF 3 (bj 14 m (kD m tell))))[13 + i]? = some o := fun i o h1 h2 h => by
  rw [au (by lia)]
  show (List.set _ _ _)[_]? = _
  rw [au (by lia), e]; exact h
 have tr : TR T (aA.set 14 (.aF 3 (bj 14 m (kD m tell)))) := by
  refine TR.set (TR.set (R.keep ?_) (by decide)) (by decide)
  exact aV.push.trans (aV.Hd.trans aV.push)
 refine ⟨⟨tr, ?_, g 3 _ (by decide) (by decide) rfl, g 4 _ (by decide) (by decide) rfl, g 5 _ (by decide) (by decide) rfl, g 7 _ (by decide) (by decide) rfl, g 8 _ (by decide) (by decide) rfl, g 0 _ (by decide) (by decide) rfl, ?_, g 9 _ (by decide) (by decide) rfl, .inl rfl, .inl rfl⟩, ⟨(fun _ _ h => nomatch h), Nat.le_refl _, rfl, .nil⟩, rfl, rfl, Nat.le_refl _, Nat.le_refl _, .inl rfl⟩
 ·have : aA[14]? = some (.aF 3 (t4 14 m)) := by
   show (List.set _ _ _)[14]? = _
   rw [au (by decide)]
   exact (e 1).trans rfl
  exact aE this
 ·rw [au (by decide)]
  exact aE ((e 2).trans rfl)
theorem LS.IJ (L : LS T m B S σ) (z : Int) : Hi 14 39 (.int z) σ (σ.set 14 (.aF 3 (bj 14 m { S with dW := z }))) /\ LS T m B { S with dW := z } (σ.set 14 (.aF 3 (bj 14 m { S with dW := z }))) := by
 refine ⟨sa L.rr.cO (Nat.le_of_ble_eq_true rfl), ?_⟩
 have R := L.rr
 have nC := R.nC
 have F : AF 14 S.tr σ (σ.set 14 (.aF 3 (bj 14 m { S with dW := z }))) := ⟨by rw [List.length_set]; exact Nat.le_refl _, fun a o h f => by rw [au f.1.symm]; exact h⟩
 have T2 : TR T (σ.set 14 (.aF 3 (bj 14 m { S with dW := z }))) := R.aO.set (by decide)
 have z : ∀ {a : Nat} {o : aN}, σ[a]? = some o -> a ≠ 14 -> (σ.set 14 (.aF 3 (bj 14 m { S with dW := z })))[a]? = some o := fun h g => by rw [au g.symm]; exact h
 refine ⟨⟨T2, aE R.cO, z R.dF (by decide), z R.kn (by decide), z R.tr (show S.tr ≠ 14 by lia), z R.no (by decide), z R.nr (by decide), z R.cu (by decide), z R.eM (by decide), z R.rule (by decide), R.gX, R.nC⟩, ⟨L.ai.bw, L.ai.G5, L.ai.dF, L.ai.nd⟩, L.vR, L.dp, L.lk, L.nl, ?_⟩
 refine L.tw.imp id fun ⟨k, ax, e, R2, A, r1, r2, r3, r4, r5, r6⟩ => ?_
 obtain ⟨o1, o2⟩ := LS.EC L.rr r5 r6
 exact ⟨k, ax, e, R2.af F T2 o1 (by rw [r4]; exact o1 4 (by decide)) o2, A, r1, r2, r3, r4, r5, r6⟩
end
end
section
noncomputable def Tc (script X : List V) : ag := [.ic script, .list X, .list X, .list [.int 0, .ref 2]]
section
variable {xH : ag} {S : cW} {script : List V}
theorem Jr {l : Nat} (h : l <= 48) : ∃ c : Nat, (3 : Int) + (l : Int).fdiv 16 = c /\ c <= 6 := by
 have : (l : Int).fdiv 16 = l / 16 := Int.fdiv_eq_ediv_of_nonneg _ (by decide)
 exact ⟨3 + l / 16, by rw [this]; lia, by lia⟩
structure QK where
 (y : Option V) (pos : Nat) (T : cN) (S : cW)
theorem BW {e3 e4 : Option V} (L : LS T m 0 S σ) (D0 : DS xs pos T σ) (hx : ∀ v ∈ xs, ∃ z : Int, v = .int z) (hl : xs.length <= 48) (jn : 22 < σ.length) (hm : m ≠ 3) (xd : S.aw = true -> m = 1) (hz : T.size <= 1000) (q : ∀ σ', Q (.bool true) σ') :
  WX (cl (D + 71)) CI.body.tl.tl.tl.tl.tl.tl.tl [some (.ref 0), some (.ref 3), some (.ref 4), e3, e4, some (.ref 14), none, none] σ (a6 Q) := by
 obtain ⟨c, hc, VG⟩ := Jr hl
 have TP : fB ((3 : Int) + (xs.length : Int).fdiv 16) = (List.range c).map fun (i : Nat) => .int i := by rw [hc]; rfl
 refine cT.cv (fun i : Nat => .int i) .pH (fB ((3 : Int) + (xs.length : Int).fdiv 16)) (List.range c) (fun i : QK => [some (.ref 0), some (.ref 3), some (.ref 4), e3, e4, some (.ref 14), i.y, none])
  (fun dn _ i σ' => i.T.size <= 1000 + 200 * dn.length /\ LS i.T m (500 * dn.length) i.S σ' /\ DS xs i.pos i.T σ' /\ 22 < σ'.length /\ (i.S.aw = true -> m = 1)) ?_ ?_ ?_
 ·refine aG (cD D0.d3 rfl) ?_
  refine b3 D0.d2 ?_
  refine ⟨by lia, ?_⟩
  refine .cn TP (QK.mk _ pos T S) ?_
  exact ⟨hz, L, D0, jn, xd⟩
 ·rintro dn i td ⟨y0, nX, aZ, aU⟩ ab iN J
  have hg := eC iN
  rw [List.length_range] at hg
  have p7 : (dn ++ [i]).length = dn.length + 1 := List.length_append
  have zD : aZ.size <= 1000 + 200 * dn.length := J.1
  have L1 : LS aZ m (500 * dn.length) aU ab := J.2.1
  have D1 : DS xs nX aZ ab := J.2.2.1
  obtain ⟨e1, L2⟩ := L1.IJ (i : Int)
  refine jt e1 ?_
  have D2 : DS xs nX aZ (ab.set 14 (.aF 3 (bj 14 m { aU with dW := i }))) := ⟨L2.rr.aO, by rw [au (by decide)]; exact D1.d3, by rw [au (by decide)]; exact D1.d2⟩
  refine Dd (D := D) L2 D2 hx (by rw [List.length_set]; exact J.2.2.2.1) hm J.2.2.2.2 (by lia) (by lia) fun cI T' S' σ' Rq L' D' zJ ht => ?_
  refine ⟨trivial, .next iN (QK.mk _ cI T' S') ?_⟩
  rw [p7]
  exact ⟨by show T'.size <= _; lia, L'.up (by lia), D', zJ, fun h => J.2.2.2.2 (by rw [ht] at h; exact h)⟩
 ·rintro ⟨y0, nX, aZ, aU⟩ ab J
  have L1 : LS aZ m (500 * (List.range c).length) aU ab := J.2.1
  have R := L1.rr
  refine fM R.cO ?_
  have nC := R.tr
  rw [L1.vR] at nC
  refine dD (nE (aH nC) ay rfl rfl) (?_)
  refine fM (aH R.cO) ?_
  have Ml := R.dF
  rw [L1.ai.dF, L1.vR] at Ml
  have e : vD (ab ++ [aN.list []]).length ((ab ++ [aN.list []]) ++ [.dict .ae []]) .eq (.ref 16) true := .GZ (aH (aH Ml)) ay
  exact dD e (q _)
theorem II (hx : ∀ v ∈ script, ∃ z : Int, v = .int z) (q : ∀ σ', Q (.bool true) σ') : cl (D + 72) 90 [.ref 0] [.ic script] Q := by
 refine IS ?_
 have Nt : ∀ v ∈ script.take 48, ∃ z : Int, v = .int z := fun v hv => hx v (List.mem_of_mem_take hv)
 have LZ : (script.take 48).length <= 48 := by rw [List.length_take]; lia
 refine c6.cv id (.seq (.ref 1)) (script.take 48) (script.take 48) id (fun _ _ σ' => [.ic script, .list (script.take 48)] = σ') ?_ ?_ ?_
 ·refine .yY (l := script) rfl rfl (by decide) ?_
  exact eL rfl (.cn (List.map_id _).symm rfl rfl)
 ·rintro _ _ _ _ h rfl
  exact ⟨ba rfl, .next h rfl rfl⟩
 rintro _ rfl
 refine ⟨by show (script.take 48).length <= _; lia, ?_⟩
 show y8 _ _ fun σ' => _
 dsimp only [id]
 generalize hX : script.take 48 = X at Nt LZ
 refine za ?_
 have D0 : DS X 0 D8 (.ic script :: .list X :: .list X :: .list [.int 0, .ref 2] :: kh) := ⟨D7, rfl, rfl⟩
 have l0 : (aN.ic script :: .list X :: .list X :: .list [.int 0, .ref 2] :: kh).length = 13 := rfl
 generalize aN.ic script :: .list X :: .list X :: .list [.int 0, .ref 2] :: kh = xH at D0 l0 ⊢
 cbv
 refine nQ (d := D + 70) D0 Nt (by decide) (by decide) fun z ab E5 zD X1 e1 => ?_
 obtain ⟨m, hm, Uc⟩ : ∃ m : Int, yr (.ae [.int 1, .int 4, .int 1, .int 2]) (.int z) = some (.int m) /\ m ≠ 3 := by
  obtain rfl | rfl | rfl | rfl : z = 0 \/ z = 1 \/ z = 2 \/ z = 3 := gj (k := 0) 3 (by lia) (by lia)
  ·exact ⟨1, rfl, by decide⟩
  ·exact ⟨4, rfl, by decide⟩
  ·exact ⟨1, rfl, by decide⟩
  ·exact ⟨2, rfl, by decide⟩
 refine ir hm ?_
 refine nQ (d := D + 70) X1.ds Nt (by decide) (by decide) fun z2 ah _ _ X2 e2 => ?_
 have l2 : ah.length = 13 := by rw [e2, e1, l0]
 refine Cj (d := D + 70) ?_
 rw [l2]
 have l3 : (ah ++ [aN.aF 2 dQ]).length = 14 := by rw [List.length_append, l2]; rfl
 refine xZ (d := D + 69) ?_
 rw [l3]
 have PV : LS D8 m 0 (kD m (decide (m = 1) && decide (z2 < 5))) (((ah ++ [aN.aF 2 dQ] ++ eB 14 m ++ [aN.aF 5 []]).set 15 (.dict .int [(.int 2, .ref 22)])).set 14 (.aF 3 (bj 14 m (kD m (decide (m = 1) && decide (z2 < 5)))))) := EU (m := m) l2 X2.ds.tr (tell := decide (m = 1) && decide (z2 < 5))
 have e : ∀ i : Nat, (ah ++ [aN.aF 2 dQ] ++ eB 14 m)[13 + i]? = ([aN.aF 2 dQ] ++ eB 14 m)[i]? := fun i => by
  rw [<- l2, List.append_assoc]; exact cF i
 have J3 : (ah ++ [aN.aF 2 dQ] ++ eB 14 m)[14]? = some (.aF 3 (t4 14 m)) := (e 1).trans rfl
 have xj : (ah ++ [aN.aF 2 dQ] ++ eB 14 m)[15]? = some (.dict .int []) := (e 2).trans rfl
 have l4 : (ah ++ [aN.aF 2 dQ] ++ eB 14 m).length = 22 := by rw [List.length_append, l3]; rfl
 have old : ∀ (a : Nat) o, ah[a]? = some o -> a < 13 -> (((ah ++ [aN.aF 2 dQ] ++ eB 14 m ++ [aN.aF 5 []]).set 15 (.dict .int [(.int 2, .ref 22)])).set 14 (.aF 3 (bj 14 m (kD m (decide (m = 1) && decide (z2 < 5))))))[a]? = some o := fun a o h g => by
  rw [au (by lia), au (by lia)]; exact aH (aV.Hd.old _ _ (aH h))
 generalize ah ++ [aN.aF 2 dQ] ++ eB 14 m = bg at PV J3 xj l4 old ⊢
 refine iu ?_
 refine fM (aH J3) ?_
 refine dI (σ' := (bg ++ [aN.aF 5 []]).set 15 (.dict .int [(.int 2, .ref 22)])) (by rw [l4]; exact cg (aH xj) rfl (by decide)) ?_
 refine rl (b1 := decide (m = 1)) (b2 := decide (z2 < 5)) (fun _ q => q) (fun _ q => q) ?_
 have P4 : ((bg ++ [aN.aF 5 []]).set 15 (.dict .int [(.int 2, .ref 22)]))[14]? = some (.aF 3 (t4 14 m)) := by rw [au (by decide)]; exact aH J3
 refine jt (show Hi _ _ _ _ (List.set _ 14 (.aF 3 (bj 14 m (kD m (decide (m = 1) && decide (z2 < 5)))))) from sa P4 (Nat.le_of_ble_eq_true rfl)) ?_
 have D2 := X2.ds
 exact BW (D := D) (T := D8) (S := kD m (decide (m = 1) && decide (z2 < 5))) PV ⟨PV.rr.aO, old _ _ D2.d3 (by decide), old _ _ D2.d2 (by decide)⟩ Nt LZ (by rw [List.length_set, List.length_set, List.length_append, l4]; decide) Uc (fun h => of_decide_eq_true (Bool.and_eq_true_iff.mp (show (decide (m = 1) && decide (z2 < 5)) = true from h)).1) (by decide) q
end
end
end OK
section OJ
variable {T : Nm} {μ μ' c7 : fm} {h h' eH : Heap} {y : V} {us : List Value} {prog : Program} {w : World}
section
open PySem PySem.Spec PySem.Calls PyProof.Rows PySem.SeqAt
inductive bL {α β : Type} (R : α -> β -> Prop) : List α -> List β -> Prop
 | nil : bL R [] []
 | cons {x v xs vs} : R x v -> bL R xs vs -> bL R (x :: xs) (v :: vs)
section
variable {α β : Type} {R R' : α -> β -> Prop} {xs ys : List α} {vs ws : List β}
theorem bL.hd {x : α} {v : β} (h : bL R (x :: xs) (v :: vs)) : R x v := by cases h; assumption
theorem bL.tl {x : α} {v : β} (h : bL R (x :: xs) (v :: vs)) : bL R xs vs := by cases h; assumption
theorem bL.length (h : bL R xs vs) : vs.length = xs.length := by
 induction h with
 | nil => rfl
 | cons _ _ ih => exact congrArg (· + 1) ih
theorem bL.size {vs : Array β} (r : bL R xs vs.toList) : vs.size = xs.length := r.length
theorem bL.get (h : bL R xs vs) : ∀ {i : Nat} {x : α}, xs[i]? = some x -> ∃ v, vs[i]? = some v /\ R x v := by
 induction h with
 | nil => intro i x e; cases e
 | cons r _ ih =>
  intro i x e
  cases i with
  | zero => exact ⟨_, rfl, Option.some.inj e ▸ r⟩
  | succ i => exact ih e
theorem bL.append (h : bL R xs vs) (h' : bL R ys ws) : bL R (xs ++ ys) (vs ++ ws) := by
 induction h with
 | nil => exact h'
 | cons r _ ih => exact .cons r ih
theorem bL.take (h : bL R xs vs) : ∀ n, bL R (xs.take n) (vs.take n) := by
 induction h with
 | nil => intro n; cases n <;> exact .nil
 | cons r _ ih =>
  intro n
  cases n with
  | zero => exact .nil
  | succ n => exact .cons r (ih n)
theorem bL.drop (h : bL R xs vs) : ∀ n, bL R (xs.drop n) (vs.drop n) := by
 induction h with
 | nil => intro n; cases n <;> exact .nil
 | cons r h ih =>
  intro n
  cases n with
  | zero => exact .cons r h
  | succ n => exact ih n
theorem bL.set (h : bL R xs vs) {x : α} {v : β} (q : R x v) : ∀ i : Nat, bL R (xs.set i x) (vs.set i v) := by
 induction h with
 | nil => intro _; exact .nil
 | cons r h ih =>
  intro i
  cases i with
  | zero => exact .cons q h
  | succ i => exact .cons r (ih i)
theorem bL.imp (f : ∀ x v, R x v -> R' x v) (h : bL R xs vs) : bL R' xs vs := by
 induction h with
 | nil => exact .nil
 | cons r _ ih => exact .cons (f _ _ r) ih
end
structure Nm where
 nm : Nat -> Str
 len : Nat
 inj : ∀ i j, i < len -> j < len -> nm i = nm j -> i = j
 ok : ∀ i, i < len -> PyData.canLay0 (.str (nm i)) = true
noncomputable abbrev fm := List (Addr × Option Addr)
noncomputable def foot (μ : fm) : List Addr := μ.flatMap fun p => p.1 :: p.2.toList
noncomputable def nM (vs : Array Value) (n : Nat) : Obj := { cls := .type "tuple", data := .seq vs n }
noncomputable def fV (vs : Array Value) (n : Nat) : Obj := { cls := .type "list", data := .seq vs n }
inductive VR (T : Nm) (μ : fm) (h : Heap) : V -> Value -> Prop
 | none : VR T μ h .none .none
 | bool (b) : VR T μ h (.bool b) (.bool b)
 | int (i t) : VR T μ h (.int i) (.int i t)
 | str (k t) : k < T.len -> VR T μ h (.str k) (.str (T.nm k) t)
 | ae {l a vs n} : h.get? a = some (nM vs n) -> bL (VR T μ h) l vs.toList -> l.length <= 1000000 -> VR T μ h (.ae l) (.ref a)
 | ref {n a d} : μ[n]? = some (a, d) -> VR T μ h (.ref n) (.ref a)
noncomputable abbrev eQ (T : Nm) (μ : fm) (h : Heap) : List V -> List Value -> Prop := bL (VR T μ h)
theorem VR.i6 {T : Nm} {μ : fm} {h : Heap} {n : Nat} {v' : Value} (r : VR T μ h (.ref n) v') : ∃ a d, v' = .ref a /\ μ[n]? = some (a, d) := by
 cases r with | ref hm => exact ⟨_, _, rfl, hm⟩
theorem VR.je {T : Nm} {μ : fm} {h : Heap} {i : Int} {v' : Value} (r : VR T μ h (.int i) v') : ∃ t, v' = .int i t := by
 cases r with | int _ t => exact ⟨t, rfl⟩
theorem VR.lA {T : Nm} {μ : fm} {h : Heap} {b : Bool} {v' : Value} (r : VR T μ h (.bool b) v') : v' = .bool b := by
 cases r with | bool _ => rfl
theorem VR.tX {T : Nm} {μ : fm} {h : Heap} {v' : Value} (r : VR T μ h .none v') : v' = .none := by
 cases r with | none => rfl
theorem VR.DZ {T : Nm} {μ : fm} {h : Heap} {l : List V} {v' : Value} (r : VR T μ h (.ae l) v') : ∃ a vs n, v' = .ref a /\ h.get? a = some (nM vs n) /\ eQ T μ h l vs.toList /\ l.length <= 1000000 := by
 cases r with | ae ho rs hl => exact ⟨_, _, _, rfl, ho, rs, hl⟩
inductive NV (T : Nm) (h : Heap) : V -> Value -> Prop
 | int (i t) : NV T h (.int i) (.int i t)
 | str (k t) : k < T.len -> NV T h (.str k) (.str (T.nm k) t)
 | ae {l a vs m} : h.get? a = some (nM vs m) -> bL (NV T h) l vs.toList -> l.length <= 1000000 -> NV T h (.ae l) (.ref a)
structure dw (μ μ' : fm) (h h' : Heap) : Prop where
 map : ∀ (n : Nat) p, μ[n]? = some p -> μ'[n]? = some p
 ae : ∀ a vs n, h.get? a = some (nM vs n) -> h'.get? a = some (nM vs n)
section
variable {n : Nat} {x : V} {v u : Value} {xs ys : List V} {vs : List Value}
theorem dw.refl : dw μ μ h h := ⟨fun _ _ e => e, fun _ _ _ e => e⟩
theorem dw.trans (x : dw μ μ' h h') (y : dw μ' c7 h' eH) : dw μ c7 h eH := ⟨fun n p e => y.map n p (x.map n p e), fun a vs n e => y.ae a vs n (x.ae a vs n e)⟩
theorem VR.aC (g : dw μ μ' h h') (r : VR T μ h x v) : VR T μ' h' x v :=
 VR.rec (motive_1 := fun x v _ => VR T μ' h' x v) (motive_2 := fun xs vs _ => eQ T μ' h' xs vs) .none .bool .int .str (fun ho _ q ih => .ae (g.ae _ _ _ ho) ih q) (fun e => .ref (g.map _ _ e)) .nil (fun _ _ a b => .cons a b) r
theorem eQ.aC (g : dw μ μ' h h') (r : eQ T μ h xs vs) : eQ T μ' h' xs vs := r.imp fun _ _ => VR.aC g
theorem all_cons {x : V} {l : List V} (h : (x :: l).all (V.a5 n) = true) : V.a5 n x = true /\ l.all (V.a5 n) = true := Bool.and_eq_true_iff.mp h
theorem n5 {P : Prop} (h : ∀ n, V.a5 n x = false) (e : V.a5 n x = true) : P := absurd ((h n).symm.trans e) Bool.false_ne_true
theorem VR.nv (r : VR T μ h x v) : ∀ {n}, V.a5 n x = true -> NV T h x v :=
 VR.rec (motive_1 := fun x v _ => ∀ {n}, V.a5 n x = true -> NV T h x v) (motive_2 := fun xs vs _ => ∀ {n}, xs.all (V.a5 n) = true -> bL (NV T h) xs vs)
  (n5 fun n => by cases n <;> rfl) (fun _ => n5 fun n => by cases n <;> rfl) (fun i t _ _ => .int i t) (fun k t q _ _ => .str k t q)
  (fun ho _ q ih n e => by
   cases n with
   | zero => exact absurd e Bool.false_ne_true
   | succ n => exact .ae ho (ih e) q) (fun _ => n5 fun n => by cases n <;> rfl) (fun _ => .nil) (fun _ _ a b _ e => .cons (a (all_cons e).1) (b (all_cons e).2)) r
theorem eQ.nv (r : eQ T μ h xs vs) (e : xs.all (V.a5 n) = true) : bL (NV T h) xs vs := by
 induction r with
 | nil => exact .nil
 | cons a _ ih => exact .cons (a.nv (all_cons e).1) (ih (all_cons e).2)
theorem NV.vr (r : NV T h x v) : VR T μ h x v :=
 NV.rec (motive_1 := fun x v _ => VR T μ h x v) (motive_2 := fun xs vs _ => eQ T μ h xs vs) .int .str (fun ho _ q ih => .ae ho ih q) .nil (fun _ _ a b => .cons a b) r
mutual
noncomputable def jK (T : Nm) : V -> PyData
 | .int i => .int i
 | .str k => .str (T.nm k)
 | .ae l => .tuple (eK T l)
 | _ => .none
noncomputable def eK (T : Nm) : List V -> List PyData
 | [] => []
 | x :: xs => jK T x :: eK T xs
end
structure NR (T : Nm) (h : Heap) (n : Nat) (x : V) (v : Value) : Prop where
 reads : Reads h v (jK T x) []
 s8 : (jK T x).canLay0 = true
 depth : (jK T x).depth <= n + 1
structure Aq (T : Nm) (h : Heap) (n : Nat) (xs : List V) (vs : List Value) : Prop where
 reads : ReadsAll h vs (eK T xs) []
 s8 : PyData.canLayAll0 (eK T xs) = true
 depth : PyData.depthAll (eK T xs) <= n + 1
theorem Aq.cons (y : NR T h n x v) (z : Aq T h n xs vs) : Aq T h n (x :: xs) (v :: vs) := ⟨.cons (as := []) (bs := []) y.reads z.reads, Bool.and_eq_true_iff.mpr ⟨y.s8, z.s8⟩, Nat.max_le.mpr ⟨y.depth, z.depth⟩⟩
theorem NV.nr (r : NV T h x v) : ∀ {n}, V.a5 n x = true -> NR T h n x v :=
 NV.rec (motive_1 := fun x v _ => ∀ {n}, V.a5 n x = true -> NR T h n x v) (motive_2 := fun xs vs _ => ∀ {n}, xs.all (V.a5 n) = true -> Aq T h n xs vs) (fun _ _ _ _ => ⟨.int _ _, rfl, Nat.le_add_left _ _⟩) (fun k _ q _ _ => ⟨.str _ _, T.ok k q, Nat.le_add_left _ _⟩)
  (fun ho _ _ ih n e => by
   cases n with
   | zero => exact absurd e Bool.false_ne_true
   | succ n => exact ⟨.tuple ho rfl rfl (ih e).reads, (ih e).s8, Nat.succ_le_succ (ih e).depth⟩) (fun _ => ⟨.nil, rfl, Nat.zero_le _⟩) (fun _ _ y z _ e => Aq.cons (y (all_cons e).1) (z (all_cons e).2)) r
theorem Aq.of (r : bL (NV T h) xs vs) (e : xs.all (V.a5 n) = true) : Aq T h n xs vs := by
 induction r with
 | nil => exact ⟨.nil, rfl, Nat.zero_le _⟩
 | cons a _ ih => exact Aq.cons (a.nr (all_cons e).1) (ih (all_cons e).2)
theorem lr (r : NV T h x v) : ∀ {y u}, NV T h' y u -> PyData.eqv (jK T x) (jK T y) = decide (x = y) :=
 NV.rec (motive_1 := fun x _ _ => ∀ {y u}, NV T h' y u -> PyData.eqv (jK T x) (jK T y) = decide (x = y)) (motive_2 := fun xs _ _ => ∀ {ys us}, bL (NV T h') ys us -> PyData.eqvAll (eK T xs) (eK T ys) = decide (xs = ys))
  (fun _ _ _ _ hy => by cases hy <;> first | exact decide_eq_decide.mpr ⟨congrArg _, V.int.inj⟩ | rfl)
  (fun i _ q _ _ hy => by
   cases hy with
   | str j _ q' => exact decide_eq_decide.mpr ⟨fun e => congrArg _ (T.inj i j q q' e), fun e => congrArg _ (V.str.inj e)⟩
   | _ => rfl)
  (fun _ _ _ ih _ _ hy => by
   cases hy with
   | ae _ r2 _ => exact (ih r2).trans (decide_eq_decide.mpr ⟨congrArg _, V.ae.inj⟩)
   | _ => rfl)
  (fun hy => by cases hy <;> rfl)
  (fun _ _ LD LC _ _ hy => by
   cases hy with
   | nil => rfl
   | cons b q =>
    show (PyData.eqv _ _ && PyData.eqvAll _ _) = _
    rw [LD b, LC q, <- Bool.decide_and]
    exact decide_eq_decide.mpr ⟨fun e => by rw [e.1, e.2], List.cons.inj⟩) r
theorem zQ (r : bL (NV T h) xs vs) : ∀ {ys us}, bL (NV T h') ys us -> PyData.eqvAll (eK T xs) (eK T ys) = decide (xs = ys) := by
 induction r with
 | nil => intro ys us hy; cases hy <;> rfl
 | cons a _ ih =>
  intro ys us hy
  cases hy with
  | nil => rfl
  | cons b q =>
   show (PyData.eqv _ _ && PyData.eqvAll _ _) = _
   rw [lr a b, ih q, <- Bool.decide_and]
   exact decide_eq_decide.mpr ⟨fun e => by rw [e.1, e.2], List.cons.inj⟩
theorem Ac (hx : NV T h x v) (r : bL (NV T h) xs vs) : ((eK T xs).any fun y => PyData.eqv y (jK T x)) = decide (x ∈ xs) := by
 induction r with
 | nil => rfl
 | cons a _ ih =>
  show (PyData.eqv _ (jK T x) || List.any _ _) = _
  rw [lr a hx, ih, <- Bool.decide_or]
  exact decide_eq_decide.mpr ⟨fun e => e.elim (fun e => e ▸ .head _) (.tail _), fun e => (List.mem_cons.mp e).imp Eq.symm id⟩
theorem NV.inj (r : NV T h x v) : ∀ {y}, NV T h y v -> x = y :=
 NV.rec (motive_1 := fun x v _ => ∀ {y}, NV T h y v -> x = y) (motive_2 := fun xs vs _ => ∀ {ys}, bL (NV T h) ys vs -> xs = ys)
  (fun _ _ _ hy => by cases hy; rfl)
  (fun i t q _ hy => by
   generalize hz : Value.str (T.nm i) t = z at hy
   cases hy with
   | str k _ q' => rw [T.inj i k q q' (Value.str.inj hz).1]
   | _ => cases hz)
  (fun ho _ _ ih _ hy => by
   cases hy with
   | ae Ck SN _ => exact congrArg _ (ih ((Data.seq.inj (Obj.mk.inj (Option.some.inj (ho.symm.trans Ck))).2.2.1).1 ▸ SN)))
  (fun hy => by cases hy; rfl)
  (fun _ _ LD LC _ hy => by
   cases hy with
   | cons b q => rw [LD b, LC q]) r
end
section
variable (T : Nm) (w : World)
mutual
noncomputable def xJ : V -> Int
 | .int i => hashInt i
 | .str k => hashStr w (T.nm k)
 | .ae l => reduceHash (Builtin.Tuple.tupleHashOf (rn l))
 | _ => 0
noncomputable def rn : List V -> List Int
 | [] => []
 | x :: xs => xJ x :: rn xs
end
mutual
noncomputable def vP : V -> Nat
 | .ae l => rp l + 1
 | _ => 1
noncomputable def rp : List V -> Nat
 | [] => 0
 | x :: xs => vP x + rp xs
end
end
section
variable {n : Nat} {x : V} {v : Value}
def Dw (prog : Program) (w : World) (T : Nm) (h : Heap) (n : Nat) (x : V) (v : Value) : Prop := ∀ {A : Around} {E : Value -> Shared -> Prop} {s : Shared} {Q : Int -> Shared -> Prop}, s.heap = h -> A.units + n < cLine ->
  Q (xJ T w x) { s with toks := s.toks + vP x } -> wpAny (model prog w) A (pyHash v) Q E s
def Dv (prog : Program) (w : World) (T : Nm) (h : Heap) (n : Nat) (xs : List V) (vs : List Value) : Prop := ∀ {A : Around} {E : Value -> Shared -> Prop} {s : Shared} {Q : Array Int -> Shared -> Prop}, s.heap = h -> A.units + n < cLine ->
  ∀ acc : Array Int, (∀ b : Array Int, b.toList = acc.toList ++ rn T w xs -> Q b { s with toks := s.toks + rp xs }) ->
  wpAny (model prog w) A (forIn vs acc fun x r => do let h <- pyHash x; pure PUnit.unit; pure (ForInStep.yield (r.push h))) Q E s
theorem Bm (r : NV T h x v) : ∀ {n}, V.a5 n x = true -> Dw prog w T h n x v :=
 NV.rec (motive_1 := fun x v _ => ∀ {n}, V.a5 n x = true -> Dw prog w T h n x v) (motive_2 := fun xs vs _ => ∀ {n}, xs.all (V.a5 n) = true -> Dv prog w T h n xs vs) (by intro i t n e A E s Q hs hu q; exact wpAny_pyHash_int q) (by intro k t hk n e A E s Q hs hu q; exact wpAny_pyHash_str q)
  (by
   intro l a vs m ho _ _ ih n e A E s Q hs hu q
   cases n with
   | zero => exact absurd e Bool.false_ne_true
   | succ n =>
   have ho : s.heap.get? a = _ := hs ▸ ho
   refine W.pyHash_slot (T := "tuple") ⟨_, ho, rfl⟩ F.slot_tuple_hash F.entry_tuple_hash (F.args_tuple_hash_1 _) (beq_builtin_none _) (.inr (Nat.lt_of_le_of_lt (Nat.le_add_right _ _) hu)) ?_
   show wpAny _ _ (Builtin.Tuple.tupleItemsOf (.ref a) >>= _) _ _ s
   refine wpAny_bind (wpAny_tupleItemsOf ho rfl (wpAny_bind ?_))
   rw [<- Array.forIn_toList]
   refine ih e hs (show A.units + 1 + n < cLine by rw [Nat.add_assoc, Nat.add_comm 1]; exact hu) #[] fun b hb => ?_
   show wpAny _ _ (retInt (Builtin.Tuple.tupleHashOf b.toList)) _ _ _
   rw [hb]
   exact wpAny_bind (wpAny_mkInt (wpAny_pure ⟨_, _, rfl, q⟩)))
  (by intro n e A E s Q hs hu acc q; exact wpAny_pure (q acc (List.append_nil _).symm))
  (by
   intro x v xs vs _ _ LD LC n e A E s Q hs hu acc q
   rw [List.forIn_cons]
   refine wpAny_bind (wpAny_bind (LD (all_cons e).1 hs hu (wpAny_pure (LC (all_cons e).2 (by exact hs) hu _ fun b hb => ?_))))
   have q := q b (by rw [hb, Array.toList_push, List.append_assoc]; rfl)
   rw [Nat.add_assoc]
   exact q) r
def lE (prog : Program) (w : World) (h : Heap) (n : Nat) (v : Value) : Prop := ∀ (m : Nat) {A : Around} {E : Value -> Shared -> Prop} {s : Shared} {Q : Bool -> Shared -> Prop}, s.heap = h -> n <= m -> Q true s -> wpAny (model prog w) A (eqIsQuiet m v) Q E s
theorem qu (hv : carriedByValue v = true) : lE prog w h n v := fun m _ _ _ _ _ _ q => by rw [eqIsQuiet_byValue _ hv]; exact wpAny_pure q
theorem Ec (r : NV T h x v) : ∀ {n}, V.a5 n x = true -> lE prog w h n v :=
 NV.rec (motive_1 := fun x v _ => ∀ {n}, V.a5 n x = true -> lE prog w h n v) (motive_2 := fun xs vs _ => ∀ {n}, xs.all (V.a5 n) = true -> ∀ v ∈ vs, lE prog w h n v) (fun _ _ _ _ => qu rfl) (fun _ _ _ _ _ => qu rfl)
  (by
   intro l a vs _ ho _ _ ih n e m A E s Q hs hm q
   cases n with
   | zero => exact absurd e Bool.false_ne_true
   | succ n =>
   cases m with
   | zero => exact absurd hm (Nat.not_succ_le_zero _)
   | succ m =>
   have ho : s.heap.get? _ = _ := hs ▸ ho
   have hT : s.TypeIs (.ref _) "tuple" := ⟨_, ho, rfl⟩
   unfold eqIsQuiet
   refine wpAny_bind (wpAny_specialOf hT F.slot_tuple_eq.lookup ?_)
   show wpAny _ _ (isInstance (.ref _) (.type "tuple") >>= _) _ _ s
   refine wpAny_bind (wpAny_isInstance hT isSubtype_tuple_tuple ?_)
   simp only [Bool.not_true, Bool.false_eq_true, if_false]
   refine wpAny_bind (wpAny_seqItems ho rfl (wpAny_bind ?_))
   show wpAny _ _ (forIn vs _ _) _ _ s
   rw [<- Array.forIn_toList]
   refine wpAny_forIn_list _ (fun ew r s' => r.1 = none /\ s' = s /\ ∀ v ∈ ew, lE prog w h n v) _ ?_ ?_ _ _ ⟨rfl, rfl, ih e⟩
   ·rintro v ew r s' ⟨hr, rfl, hl⟩
    exact wpAny_bind (hl v (.head _) m hs (Nat.le_of_succ_le_succ hm) (wpAny_pure ⟨rfl, rfl, fun u hu => hl u (.tail _ hu)⟩))
   ·rintro ⟨r1, r2⟩ s' ⟨hr, rfl, _⟩
    have hr : r1 = none := hr
    subst hr
    exact wpAny_pure q)
  (fun _ _ h => nomatch h) (fun _ _ a b _ e v hv => (List.mem_cons.mp hv).elim (fun q => q ▸ a (all_cons e).1) (b (all_cons e).2 v)) r
end
end
open PySem PySem.Spec PySem.Calls PyProof.Rows PySem.SeqAt PySem.W
section
noncomputable def xU (prog : Program) (w : World) (T : Nm) : HeapKind prog w V where
 is h x a := V.a5 6 x = true /\ NV T h x (.ref a)
 hash := xJ T w
 draws := vP
 room A := A.units + 10 < cLine
 inj hx hy := hx.2.inj hy.2
 keeps := fun {h h' _ a d _ _ _} hx ho hd hs => ⟨hx.1, ((hx.2.vr (μ := [])).aC (μ' := []) (h' := h') ⟨fun _ _ e => e, fun a' vs n e => (hs.2 a' (by
  rintro rfl
  rw [Option.some.inj (ho.symm.trans e)] at hd
  cases hd)).trans e⟩).nv hx.1⟩
 pyHash hu hk q := Bm hk.2 hk.1 rfl (Nat.lt_of_le_of_lt (Nat.add_le_add_left (by decide) _) hu) q
 eqBool := fun {A E s x y a b Q} hu hx hy q => by
  refine eqAt_reads (jK T x) (jK T y) A s (.ref a) (.ref b) [] [] (hx.2.nr hx.1).reads (hy.2.nr hy.1).reads (hx.2.nr hx.1).s8 (hy.2.nr hy.1).s8
   (Nat.lt_of_le_of_lt (Nat.add_le_add_left (Nat.le_trans (Nat.min_le_left _ _) (Nat.le_trans (hx.2.nr hx.1).depth (by decide))) _) hu) prog w E Q ?_
  rw [lr hx.2 hy.2]
  exact q
 quiet hk q := Ec hk.2 hk.1 8 rfl (by decide) q
inductive KS (T : Nm) : Bool -> V -> Value -> Prop
 | int (i t) : KS T false (.int i) (.int i t)
 | str (k t) : k < T.len -> KS T true (.str k) (.str (T.nm k) t)
section
variable {b : Bool} {k : V} {v : Value}
theorem KS.nv : KS T b k v -> NV T h k v
 | .int i t => .int i t
 | .str k t q => .str k t q
noncomputable def O0 (T : Nm) (b : Bool) (k : V) (v : Value) : Bool := @decide (KS T b k v) (Classical.propDecidable _)
theorem KS.ok (x : KS T b k v) : O0 T b k v = true := @decide_eq_true _ (Classical.propDecidable _) x
theorem fI (x : O0 T b k v = true) : KS T b k v := @of_decide_eq_true _ (Classical.propDecidable _) x
end
set_option tactic.hygienic true in
noncomputable def dz (prog : Program) (w : World) (T : Nm) (b : Bool) : KeyKind prog w V where
 is := O0 T b
 hash := xJ T w
 inj v x y hx hy := (fI hx).nv.inj (h := default) (fI hy).nv
 byValue k v h := by cases fI h <;> rfl
 pyHash hk q := by
  cases fI hk
  ·exact wpAny_pyHash_int q
  ·exact wpAny_pyHash_str q
 eqBool := fun {A E s a b' u v Q} hu hv q => by
  cases fI hu with
  | int i =>
   cases fI hv with
   | int j => exact wpAny_eqBool_int (show Q (decide (i = j)) s from (decide_eq_decide.mpr ⟨V.int.inj, congrArg _⟩ : decide (V.int i = V.int j) = decide (i = j)) ▸ q)
  | str i t hi =>
   cases fI hv with
   | str j t' hj => exact wpAny_eqBool_str ((decide_eq_decide.mpr ⟨fun e => congrArg _ (V.str.inj e), fun e => congrArg _ (T.inj i j hi hj e)⟩ : decide (V.str i = V.str j) = decide (T.nm i = T.nm j)) ▸ q)
 «strs» k x t v h := by
  cases fI h with
  | str j t hj =>
   refine Bool.eq_iff_iff.mpr ⟨fun h => ?_, fun h => ?_⟩
   ·cases fI h; exact BEq.rfl
   ·cases v <;> first | exact absurd h Bool.false_ne_true | (rename_i y u; have e : y = T.nm j := eq_of_beq h; subst e; exact (KS.str j _ hj).ok)
def gz {γ : Type} (π : γ -> Value) (T : Nm) (μ : fm) (h : Heap) : List (V × V) -> List (V × γ) -> Prop := bL fun p q => p.1 = q.1 /\ VR T μ h p.2 (π q.2)
noncomputable abbrev qg := gz (id : Value -> Value)
noncomputable abbrev vC := gz (Prod.snd : Addr × Value -> Value)
def pD (T : Nm) (μ : fm) (h : Heap) : List (Nat × V) -> List DictEntry -> Prop := bL fun p e => p.1 < T.len /\ (∃ t, e.key = .str (T.nm p.1) t) /\ VR T μ h p.2 e.val
section
variable {α β QT QS : Type} {R : α -> β -> Prop} {R' : QT -> QS -> Prop} {xs : List α} {ys : List β}
theorem bL.Fv (f : α -> Bool) (g : β -> Bool) (e : ∀ x y, R x y -> f x = g y) (h : bL R xs ys) : (xs.find? f = none /\ ys.find? g = none) \/ ∃ x y, xs.find? f = some x /\ ys.find? g = some y /\ R x y := by
 induction h with
 | nil => exact .inl ⟨rfl, rfl⟩
 | @cons x y _ _ r _ ih =>
  rw [List.find?_cons, List.find?_cons, <- e x y r]
  cases f x with
  | true => exact .inr ⟨x, y, rfl, rfl, r⟩
  | false => exact ih
theorem bL.map (f : α -> QT) (g : β -> QS) (e : ∀ x y, R x y -> R' (f x) (g y)) (h : bL R xs ys) : bL R' (xs.map f) (ys.map g) := by
 induction h with
 | nil => exact .nil
 | cons r _ ih => exact .cons (e _ _ r) ih
theorem bL.filter (f : α -> Bool) (g : β -> Bool) (e : ∀ x y, R x y -> f x = g y) (h : bL R xs ys) : bL R (xs.filter f) (ys.filter g) := by
 induction h with
 | nil => exact .nil
 | @cons x y _ _ r _ ih =>
  rw [List.filter_cons, List.filter_cons, <- e x y r]
  cases f x with
  | true => exact .cons r ih
  | false => exact ih
end
section
variable {γ : Type} {π : γ -> Value} {a : List (V × V)} {b : List (V × γ)} {k x : V} {g : γ}
theorem gz.aC (q : dw μ μ' h h') (e : gz π T μ h a b) : gz π T μ' h' a b := e.imp fun _ _ r => ⟨r.1, r.2.aC q⟩
theorem gz.get (e : gz π T μ h a b) (k : V) : (bJ a k = none /\ (b.find? fun q => decide (q.1 = k)) = none) \/ ∃ x q, bJ a k = some x /\ (b.find? fun q => decide (q.1 = k)) = some q /\ VR T μ h x (π q.2) := by
 rcases bL.Fv (fun p => decide (p.1 = k)) (fun q => decide (q.1 = k)) (fun _ _ r => by rw [r.1]) e with ⟨h1, h2⟩ | ⟨p, q, h1, h2, r⟩
 ·exact .inl ⟨by unfold bJ; rw [h1]; rfl, h2⟩
 ·exact .inr ⟨p.2, q, by unfold bJ; rw [h1]; rfl, h2, r.2⟩
theorem gz.QW (e : gz π T μ h a b) {u : V × γ -> V × γ} (hu : ∀ q, u q = if q.1 = k then (q.1, (u q).2) else q) (hv : ∀ q : V × γ, q.1 = k -> VR T μ h x (π (u q).2)) : gz π T μ h (a.map fun p => if p.1 = k then (p.1, x) else p) (b.map u) := by
 refine e.map _ _ fun p q r => ?_
 rw [hu q]
 by_cases z : q.1 = k
 ·rw [if_pos z, if_pos (r.1.trans z)]; exact ⟨r.1, hv q z⟩
 ·rw [if_neg z, if_neg (r.1 ▸ z)]; exact r
theorem gz.ze (e : gz π T μ h a b) (k : V) (r : VR T μ h x (π g)) : gz π T μ h (a ++ [(k, x)]) (b ++ [(k, g)]) := e.append (.cons ⟨rfl, r⟩ .nil)
theorem gz.U1 (e : gz π T μ h a b) (k : V) : gz π T μ h (sP a k) (b.filter fun q => decide (q.1 ≠ k)) := e.filter _ _ fun _ _ r => by rw [r.1]
theorem gz.bC (e : gz π T μ h a b) : b.map (·.1) = a.map (·.1) := by
 induction e with
 | nil => rfl
 | cons r _ ih => rw [List.map_cons, List.map_cons, ih, r.1]
theorem qg.set {b : List (V × Value)} {v : Value} (e : qg T μ h a b) (k : V) (r : VR T μ h x v) : qg T μ h (cP a k x) (stored b k v) := by
 unfold cP stored
 have ha : (b.any fun kv => decide (kv.1 = k)) = (b.find? fun q => decide (q.1 = k)).isSome := by rw [Bool.eq_iff_iff, List.any_eq_true, List.find?_isSome]
 rw [ha]
 rcases e.get k with ⟨h1, h2⟩ | ⟨_, _, h1, h2, _⟩
 ·rw [h1, h2]; exact e.ze k r
 ·rw [h1, h2]
  exact e.QW (u := fun kv => if kv.1 = k then (kv.1, v) else kv) (fun q => by split <;> rfl) fun q z => by rw [if_pos z]; exact r
theorem vC.set {b : List (V × Addr × Value)} {v : Value} {ad : Addr} (e : vC T μ h a b) (k : V) (r : VR T μ h x v) : vC T μ h (cP a k x) (storedH b k ad v) := by
 unfold cP storedH atKey
 rcases e.get k with ⟨h1, h2⟩ | ⟨_, _, h1, h2, _⟩
 ·rw [h1, h2]; exact e.ze k r
 ·rw [h1, h2]
  exact e.QW (fun q => by unfold putAt; split <;> rfl) fun q z => by unfold putAt; rw [if_pos z]; exact r
end
theorem u4 (a : List (V × V)) (k v : V) : (cP a k v).length <= a.length + 1 := by
 unfold cP
 split
 ·rw [List.length_map]; exact Nat.le_succ _
 ·rw [List.length_append]; exact Nat.le_refl _
structure Cx where
 prog : Program
 w : World
 T : Nm
 K : Frag
 bY : Nat -> Addr
 bN : Heap
 mg : Str -> Option Value
 mb : Str -> Option Value
 g9 : Nat
 mK : List Nat
 dB : Nat -> Addr
 mZ : Addr -> Option Obj
 hK : K.In bN
 hg : bN.Ns mainGlobals mg
 hb : bN.Ns builtinsNs mb
 LX : bN.NoLimit
 LJ : sysModules < bN.objs.size
 yy : ∃ a o, bN.get? a = some o /\ bN.objs.size <= a + 1
 NC : ∀ x : Str, x ≠ "__name__" -> mb x = bootBuiltins x
noncomputable def B0 : Bool -> KK
 | false => .int
 | true => .str
inductive b4 (C : Cx) (h : Heap) (μ : fm) (a : Addr) (kvs : List (V × V)) : KK -> Prop
 | ae {l} (d : h.DictOfH (xU C.prog C.w C.T) a l) (e : vC C.T μ h kvs l) : b4 C h μ a kvs .ae
 | val {b l} (d : h.DictOf (dz C.prog C.w C.T b) a l) (e : qg C.T μ h kvs l) : b4 C h μ a kvs (B0 b)
def gg (C : Cx) (μ : fm) (h : Heap) (p : Addr × Option Addr) : aN -> Prop
 | .list xs => ∃ ck n, h.get? p.1 = some (fV ck n) /\ eQ C.T μ h xs ck.toList /\ xs.length <= 1000000 /\ p.2 = none
 | .ic xs => ∃ ck, h.IsList p.1 ck /\ eQ C.T μ h xs ck.toList /\ xs.length <= 1000000 /\ p.2 = none
 | .dict kd kvs => b4 C h μ p.1 kvs kd /\ kvs.length <= 1000000 /\ p.2 = none
 | .bq kvs => b4 C h μ p.1 kvs .str /\ kvs.length <= 1000000 /\ p.2 = none
 | .aF c fs => ∃ dx es n, p.2 = some dx /\ h.get? p.1 = some (instObj (C.bY c) dx) /\ h.get? dx = some (dictOf es n) /\ pD C.T μ h fs es /\ fs.length <= 100 /\ c < C.g9
structure SI (C : Cx) (μ : fm) (σ : ag) (h : Heap) : Prop where
 keep : ∀ b o, C.bN.get? b = some o -> h.get? b = some o
 len : μ.length = σ.length
 obj : ∀ (n : Nat) (o : aN) (p : Addr × Option Addr), σ[n]? = some o -> μ[n]? = some p -> gg C μ h p o
 apart : (foot μ).Nodup
 new : ∀ a ∈ foot μ, C.bN.objs.size <= a
 mZ : ∀ a o, C.mZ a = some o -> h.get? a = some o /\ ∃ (n : Nat) (ob : aN), μ[n]? = some (a, none) /\ σ[n]? = some ob /\ vx ob
end
variable {C : Cx} {σ : ag} {X : List Addr} {kd : KK}
section
theorem iH {μ : fm} {a : Addr} : a ∈ foot μ <-> ∃ (n : Nat) (p : Addr × Option Addr), μ[n]? = some p /\ (a = p.1 \/ p.2 = some a) := by
 unfold foot
 rw [List.mem_flatMap]
 constructor
 ·rintro ⟨p, hp, ha⟩
  obtain ⟨n, hn⟩ := List.mem_iff_getElem?.mp hp
  exact ⟨n, p, hn, (List.mem_cons.mp ha).imp id fun ha => Option.mem_toList.mp ha⟩
 ·rintro ⟨n, p, hn, ha⟩
  exact ⟨p, List.mem_of_getElem? hn, List.mem_cons.mpr (ha.imp id fun ha => Option.mem_toList.mpr ha)⟩
theorem kR {μ : fm} {p : Addr × Option Addr} : foot (μ ++ [p]) = foot μ ++ (p.1 :: p.2.toList) := by
 unfold foot
 rw [List.flatMap_append, List.flatMap_cons, List.flatMap_nil, List.append_nil]
theorem vt {β γ : Type} {f : β -> List γ} : ∀ {l : List β}, (l.flatMap f).Nodup -> l.Pairwise fun p q => ∀ x, x ∈ f p -> x ∉ f q := fun {l} => by
 induction l with
 | nil => exact fun _ => .nil
 | cons p r ih =>
  intro h
  rw [List.flatMap_cons, List.nodup_append] at h
  exact .cons (fun q hq x hx IW => h.2.2 x hx x (List.mem_flatMap.mpr ⟨q, hq, IW⟩) rfl) (ih h.2.1)
structure Xt (X : List Addr) (μ μ' : fm) (h h' : Heap) : Prop where
 aC : dw μ μ' h h'
 old : ∀ b o, h.get? b = some o -> b ∉ foot μ -> b ∉ X -> h'.get? b = some o
 size : h.objs.size <= h'.objs.size
 new : ∀ a ∈ foot μ', a ∈ foot μ \/ h.objs.size <= a
def gW (h : Heap) (a : Addr) : Prop := ∀ vs n, h.get? a ≠ some (nM vs n)
section
variable {Y Z : List Addr} {a d : Addr} {kvs : List (V × V)} {o : aN} {p : Addr × Option Addr}
theorem gW.of {o : Obj} (h1 : h.get? a = some o) (h2 : o.cls ≠ .type "tuple") : gW h a := fun vs n e => h2 (by rw [Option.some.inj (h1.symm.trans e)]; rfl)
theorem dw.nc (hs : Heap.SameBut a h h') (ht : gW h a) : dw μ μ h h' := ⟨fun _ _ e => e, fun b vs n e => (hs.2 b (by rintro rfl; exact ht vs n e)).trans e⟩
theorem dw.keep (hk : ∀ b o, h.get? b = some o -> h'.get? b = some o) : dw μ μ h h' := ⟨fun _ _ e => e, fun a _ _ e => hk a _ e⟩
theorem dw.add (hk : ∀ b o, h.get? b = some o -> h'.get? b = some o) : dw μ (μ ++ [p]) h h' := ⟨fun n q e => by rw [List.getElem?_append_left (dX e)]; exact e, fun a _ _ e => hk a _ e⟩
theorem b4.obj (x : b4 C h μ a kvs kd) : ∃ o, h.get? a = some o /\ o.ExactDict := by
 cases x with
 | ae d _ => obtain ⟨o, _, _, ho, hc, _⟩ := d; exact ⟨o, ho, hc⟩
 | val d _ => obtain ⟨o, _, _, ho, hc, _⟩ := d; exact ⟨o, ho, hc⟩
theorem b4.aC (g : dw μ μ' h h') (hk : ∀ o, h.get? a = some o -> h'.get? a = some o) (x : b4 C h μ a kvs kd) : b4 C h' μ' a kvs kd := by
 cases x with
 | ae d e => obtain ⟨o, es, ep, ho, hc, hd, he, hi, hn⟩ := d; exact .ae ⟨o, es, ep, hk o ho, hc, hd, he, fun y hy => ⟨(hi y hy).1, ((hi y hy).2.vr.aC g).nv (hi y hy).1⟩, hn⟩ (e.aC g)
 | val d e => obtain ⟨o, es, ep, ho, r⟩ := d; exact .val ⟨o, es, ep, hk o ho, r⟩ (e.aC g)
theorem ke {a b : String} (h : a ≠ b) : Value.type a ≠ .type b := fun e => h (Value.type.inj e)
theorem ku {P : Addr -> Prop} (hp : p.2 = none) (h : P p.1) (ha : a = p.1 \/ p.2 = some a) : P a := ha.elim (fun e => e ▸ h) fun e => nomatch hp.symm.trans e
theorem b4.foot (x : b4 C h μ a kvs kd) : ∃ ob, h.get? a = some ob /\ ob.cls ≠ .type "tuple" := let ⟨o, ho, hc⟩ := x.obj; ⟨o, ho, hc.1 ▸ ke (by decide)⟩
theorem gg.kQ (x : gg C μ h p o) (ha : a = p.1 \/ p.2 = some a) : ∃ ob, h.get? a = some ob /\ ob.cls ≠ .type "tuple" := by
 cases o with
 | list xs => obtain ⟨_, _, ho, _, _, e⟩ := x; exact ku (P := fun a => ∃ ob, h.get? a = some ob /\ ob.cls ≠ .type "tuple") e ⟨_, ho, ke (by decide)⟩ ha
 | ic xs => obtain ⟨_, ⟨_, ho, hc, _⟩, _, _, e⟩ := x; exact ku (P := fun a => ∃ ob, h.get? a = some ob /\ ob.cls ≠ .type "tuple") e ⟨_, ho, hc ▸ ke (by decide)⟩ ha
 | dict kd kvs => exact ku (P := fun a => ∃ ob, h.get? a = some ob /\ ob.cls ≠ .type "tuple") x.2.2 x.1.foot ha
 | bq kvs => exact ku (P := fun a => ∃ ob, h.get? a = some ob /\ ob.cls ≠ .type "tuple") x.2.2 x.1.foot ha
 | aF c fs =>
  obtain ⟨_, _, _, e, ho, hd, _⟩ := x
  exact ha.elim (fun e => e ▸ ⟨_, ho, fun e => nomatch e⟩) (fun q => Option.some.inj (e.symm.trans q) ▸ ⟨_, hd, ke (by decide)⟩)
theorem gg.aC (g : dw μ μ' h h') (hk : ∀ a, (a = p.1 \/ p.2 = some a) -> ∀ ob, h.get? a = some ob -> h'.get? a = some ob) (x : gg C μ h p o) : gg C μ' h' p o := by
 cases o with
 | list xs => obtain ⟨ck, n, ho, r, l⟩ := x; exact ⟨ck, n, hk _ (.inl rfl) _ ho, r.aC g, l⟩
 | ic xs => obtain ⟨ck, ⟨o, ho, hi⟩, r, l⟩ := x; exact ⟨ck, ⟨o, hk _ (.inl rfl) _ ho, hi⟩, r.aC g, l⟩
 | dict kd kvs => exact ⟨x.1.aC g (hk _ (.inl rfl)), x.2⟩
 | bq kvs => exact ⟨x.1.aC g (hk _ (.inl rfl)), x.2⟩
 | aF c fs => obtain ⟨dx, es, n, e, ho, hd, f, l⟩ := x; exact ⟨dx, es, n, e, hk _ (.inl rfl) _ ho, hk _ (.inr e) _ hd, f.imp fun _ _ r => ⟨r.1, r.2.1, r.2.2.aC g⟩, l⟩
theorem SI.kQ (S : SI C μ σ h) (ha : a ∈ foot μ) : ∃ ob, h.get? a = some ob /\ ob.cls ≠ .type "tuple" := by
 obtain ⟨n, p, hn, ha⟩ := iH.mp ha
 have hl : n < σ.length := S.len ▸ (dX hn)
 exact (S.obj n _ p (List.getElem?_eq_getElem hl) hn).kQ ha
theorem SI.hU (S : SI C μ σ h) (ha : a ∈ foot μ) : a < h.objs.size := let ⟨_, ho, _⟩ := S.kQ ha; Heap.lt_size ho
theorem SI.Iv (S : SI C μ σ h) (ha : a ∈ foot μ) : gW h a := let ⟨_, ho, hc⟩ := S.kQ ha; .of ho hc
theorem Xt.refl : Xt X μ μ h h := ⟨.refl, fun _ _ e _ _ => e, Nat.le_refl _, fun _ ha => .inl ha⟩
theorem Xt.trans (x : Xt X μ μ' h h') (y : Xt Y μ' c7 h' eH) (hx : ∀ b ∈ X, b ∈ Z \/ h.objs.size <= b) (hy : ∀ b ∈ Y, b ∈ Z \/ h.objs.size <= b) : Xt Z μ c7 h eH where
 aC := x.aC.trans y.aC
 old b o e hb hz := by
  have lt := Heap.lt_size e
  have nz : ∀ {P : Prop}, b ∈ Z \/ h.objs.size <= b -> P := fun q => (q.elim hz fun le => absurd lt (Nat.not_lt.mpr le)).elim
  exact y.old b o (x.old b o e hb fun q => nz (hx b q)) (fun q => (x.new b q).elim hb fun q => absurd lt (Nat.not_lt.mpr q)) fun q => nz (hy b q)
 size := Nat.le_trans x.size y.size
 new a ha := (y.new a ha).elim (x.new a) fun q => .inr (Nat.le_trans x.size q)
theorem Xt.and (x : Xt [] μ μ' h h') (y : Xt X μ' c7 h' eH) : Xt X μ c7 h eH := x.trans y (fun _ h => nomatch h) fun _ h => .inl h
theorem Xt.then (x : Xt X μ μ' h h') (y : Xt [] μ' c7 h' eH) : Xt X μ c7 h eH := x.trans y (fun _ h => .inl h) fun _ h => nomatch h
theorem Xt.Hx (x : Xt X μ μ' h h') (y : Xt X μ' c7 h' eH) : Xt X μ c7 h eH := x.trans y (fun _ h => .inl h) fun _ h => .inl h
theorem Xt.to (x : Xt [] μ μ' h h') : Xt X μ μ' h h' := x.and .refl
theorem Xt.keep (hk : ∀ b o, h.get? b = some o -> h'.get? b = some o) (hs : h.objs.size <= h'.objs.size) : Xt X μ μ h h' := ⟨.keep hk, fun b o e _ _ => hk b o e, hs, fun _ ha => .inl ha⟩
theorem Xt.nc (hs : Heap.SameBut a h h') (ha : a ∈ X) (ht : gW h a) : Xt X μ μ h h' := ⟨.nc hs ht, fun b o e _ hb => (hs.2 b (fun q => hb (q ▸ ha))).trans e, Nat.le_of_eq hs.1.symm, fun _ ha => .inl ha⟩
theorem Xt.fresh (x : Xt X μ μ' h h') (y : Xt [a] μ' c7 h' eH) (ha : h.objs.size <= a) : Xt X μ c7 h eH := x.trans y (fun _ h => .inl h) fun b hb => .inr (List.mem_singleton.mp hb ▸ ha)
theorem SI.over (S : SI C μ σ h) (hk : ∀ b ∈ foot μ, ∀ o, h.get? b = some o -> h'.get? b = some o) (hb : ∀ b o, C.bN.get? b = some o -> h'.get? b = some o) (g : dw μ μ h h') : SI C μ σ h' :=
 ⟨hb, S.len, fun n o p hn hp => (S.obj n o p hn hp).aC g fun a ha ob e => hk a (iH.mpr ⟨n, p, hp, ha⟩) ob e, S.apart, S.new, fun a o e => let ⟨h1, n, kvs, h2, h3⟩ := S.mZ a o e; ⟨hk a (iH.mpr ⟨n, _, h2, .inl rfl⟩) o h1, n, kvs, h2, h3⟩⟩
theorem SI.gN (S : SI C μ σ h) (hk : ∀ b o, h.get? b = some o -> h'.get? b = some o) : SI C μ σ h' := S.over (fun b _ o e => hk b o e) (fun b o e => hk b o (S.keep b o e)) (.keep hk)
theorem SI.gI (S : SI C μ σ h) {b : Addr} {o : Obj} (hb : C.bN.objs.size <= a) (e : C.bN.get? b = some o) : b ≠ a := fun q => absurd (Heap.lt_size e) (Nat.not_lt.mpr (q ▸ hb))
theorem SI.nc (S : SI C μ σ h) (hs : Heap.SameBut a h h') (ha : a ∉ foot μ) (hb : C.bN.objs.size <= a) (ht : gW h a) : SI C μ σ h' :=
 S.over (fun b J2 o e => (hs.2 b (fun q => ha (q ▸ J2))).trans e) (fun b o e => (hs.2 b (S.gI hb e)).trans (S.keep b o e)) (.nc hs ht)
theorem SI.ext (S : SI C μ σ h) (hs : Heap.ExtBut a h h') (ha : a ∉ foot μ) (hb : C.bN.objs.size <= a) (ht : gW h a) : SI C μ σ h' :=
 S.over (fun b J2 o e => hs b o (fun q => ha (q ▸ J2)) e) (fun b o e => hs b o (S.gI hb e) (S.keep b o e)) ⟨fun _ _ e => e, fun b vs n e => hs b _ (by rintro rfl; exact ht vs n e) e⟩
theorem Xt.ext (hs : Heap.ExtBut a h h') (ht : gW h a) (hz : h.objs.size <= h'.objs.size) : Xt [a] μ μ h h' :=
 ⟨⟨fun _ _ e => e, fun b vs n e => hs b _ (by rintro rfl; exact ht vs n e) e⟩, fun b o e _ hx => hs b o (fun q => hx (q ▸ .head _)) e, hz, fun _ ha => .inl ha⟩
theorem SI.KG (S : SI C μ σ h) {n m : Nat} {p q : Addr × Option Addr} {a b : Addr} (hp : μ[n]? = some p) (hq : μ[m]? = some q) (e : n ≠ m) (ha : a = p.1 \/ p.2 = some a) (hb : b = q.1 \/ q.2 = some b) : a ≠ b := by
 rintro rfl
 obtain ⟨h1, rfl⟩ := List.getElem?_eq_some_iff.mp hp
 obtain ⟨h2, rfl⟩ := List.getElem?_eq_some_iff.mp hq
 have pw := List.pairwise_iff_getElem.mp (vt S.apart)
 have mm : ∀ {p : Addr × Option Addr}, a = p.1 \/ p.2 = some a -> a ∈ p.1 :: p.2.toList := fun ha => List.mem_cons.mpr (ha.imp id fun ha => Option.mem_toList.mpr ha)
 rcases Nat.lt_or_gt_of_ne e with lt | lt
 ·exact pw n m h1 h2 lt a (mm ha) (mm hb)
 ·exact pw m n h2 h1 lt a (mm hb) (mm ha)
theorem Bc {n m : Nat} {o o' q : aN} (hn : σ[n]? = some o) (hm : (σ.set n o')[m]? = some q) : (n = m /\ q = o') \/ (n ≠ m /\ σ[m]? = some q) := by
 by_cases e : n = m
 ·subst e
  rw [List.getElem?_set_self (dX hn)] at hm
  exact .inl ⟨rfl, (Option.some.inj hm).symm⟩
 ·rw [List.getElem?_set_ne e] at hm
  exact .inr ⟨e, hm⟩
theorem SI.set (S : SI C μ σ h) {n : Nat} {o o' : aN} (hn : σ[n]? = some o) (hp : μ[n]? = some p) (hu : ¬ vx o) (ha : a = p.1 \/ p.2 = some a) (hs : Heap.SameBut a h h')
  (ho : dw μ μ h h' -> gg C μ h' p o') : SI C μ (σ.set n o') h' /\ Xt [] μ μ h h' := by
 have hm : a ∈ foot μ := iH.mpr ⟨n, p, hp, ha⟩
 have g : dw μ μ h h' := .nc hs (S.Iv hm)
 refine ⟨⟨fun b o e => (hs.2 b (S.gI (S.new a hm) e)).trans (S.keep b o e), by rw [List.length_set]; exact S.len, fun m ob q iN hq => ?_, S.apart, S.new, fun b ob e => ?_⟩,
  ⟨g, fun b o e hb _ => (hs.2 b (fun q => hb (q ▸ hm))).trans e, Nat.le_of_eq hs.1.symm, fun _ ha => .inl ha⟩⟩
 ·rcases Bc hn iN with ⟨rfl, rfl⟩ | ⟨e, iN⟩
  ·exact Option.some.inj (hp.symm.trans hq) ▸ ho g
  ·exact (S.obj m ob q iN hq).aC g fun b hb ox ex => (hs.2 b (S.KG hp hq e ha hb).symm).trans ex
 ·obtain ⟨h1, m, kvs, h2, h3⟩ := S.mZ b ob e
  have eU : n ≠ m := by rintro rfl; exact hu (Option.some.inj (hn.symm.trans h3.1) ▸ h3.2)
  exact ⟨(hs.2 b (S.KG hp h2 eU ha (.inl rfl)).symm).trans h1, m, kvs, h2, by rw [List.getElem?_set_ne eU]; exact h3.1, h3.2⟩
theorem Df {α : Type} {l : List α} {x y : α} {n : Nat} (h : (l ++ [x])[n]? = some y) : (n < l.length /\ l[n]? = some y) \/ (n = l.length /\ y = x) := by
 rcases Nat.lt_or_ge n l.length with lt | ge
 ·rw [List.getElem?_append_left lt] at h; exact .inl ⟨lt, h⟩
 ·rw [List.getElem?_append_right ge] at h
  cases hz : n - l.length with
  | zero => rw [hz] at h; exact .inr ⟨Nat.le_antisymm (Nat.le_of_sub_eq_zero hz) ge, (Option.some.inj h).symm⟩
  | succ k => rw [hz] at h; cases h
theorem gT {α : Type} {l : List α} {x : α} : (l ++ [x])[l.length]? = some x := by rw [List.getElem?_append_right (Nat.le_refl _), Nat.sub_self]; rfl
theorem SI.add (S : SI C μ σ h) {o : aN} (hk : ∀ b ob, h.get? b = some ob -> h'.get? b = some ob) (hf : ∀ a, (a = p.1 \/ p.2 = some a) -> a ∉ foot μ /\ C.bN.objs.size <= a)
  (eU : p.2 ≠ some p.1) (ho : dw μ (μ ++ [p]) h h' -> gg C (μ ++ [p]) h' p o) : SI C (μ ++ [p]) (σ ++ [o]) h' := by
 have g : dw μ (μ ++ [p]) h h' := .add hk
 have jW : ∀ a, a ∈ (p.1 :: p.2.toList) -> a ∉ foot μ /\ C.bN.objs.size <= a := fun a ha => hf a ((List.mem_cons.mp ha).imp id fun ha => Option.mem_toList.mp ha)
 refine ⟨fun b o e => hk _ _ (S.keep b o e), by rw [List.length_append, List.length_append, S.len]; rfl, fun n ob q hn hq => ?_, ?_, fun a ha => ?_, fun a ob e => ?_⟩
 ·rcases Df hn with ⟨_, h1⟩ | ⟨e, rfl⟩ <;> rcases Df hq with ⟨l2, h2⟩ | ⟨e2, rfl⟩
  ·exact (S.obj n ob q h1 h2).aC g fun a _ ox ex => hk a ox ex
  ·exact absurd (dX h1) (Nat.not_lt.mpr (e2 ▸ Nat.le_of_eq S.len.symm))
  ·exact absurd l2 (Nat.not_lt.mpr (e ▸ Nat.le_of_eq S.len))
  ·exact ho g
 ·rw [kR, List.nodup_append]
  refine ⟨S.apart, ?_, fun a ha b hb e => (jW b hb).1 (e ▸ ha)⟩
  cases q : p.2 with
  | none => exact List.nodup_cons.mpr ⟨(fun h => nomatch h), .nil⟩
  | some d => exact List.nodup_cons.mpr ⟨fun h => eU (q.trans (congrArg some (List.mem_singleton.mp h).symm)), List.nodup_cons.mpr ⟨(fun h => nomatch h), .nil⟩⟩
 ·rw [kR] at ha
  exact (List.mem_append.mp ha).elim (S.new a) fun q => (jW a q).2
 ·obtain ⟨h1, m, kvs, h2, h3⟩ := S.mZ a ob e
  exact ⟨hk a ob h1, m, kvs, g.map _ _ h2, by rw [List.getElem?_append_left (dX h3.1)]; exact h3.1, h3.2⟩
theorem Xt.add (x : Xt X μ μ' h h') (g : dw μ' (μ' ++ [p]) h' eH) (hk : ∀ b o, h'.get? b = some o -> eH.get? b = some o) (hz : h'.objs.size <= eH.objs.size) (hf : ∀ a, (a = p.1 \/ p.2 = some a) -> h.objs.size <= a) : Xt X μ (μ' ++ [p]) h eH :=
 ⟨x.aC.trans g, fun b o e hb hx => hk b o (x.old b o e hb hx), Nat.le_trans x.size hz, fun a ha => by
  rw [kR] at ha
  exact (List.mem_append.mp ha).elim (x.new a) fun q => .inr (hf a ((List.mem_cons.mp q).imp id fun q => Option.mem_toList.mp q))⟩
end
end
variable {Λ : Sc} {ρ : Mine.Env} {A : Around} {σ' : ag} {s : Shared} {EE : Value -> Shared -> Prop} {Φ : PQ} {tk : Tok}
section
structure Sc where
 names : List (Str × NameKind)
 cL : List (Str × Nat)
noncomputable def own (env : PySem.Env) : List Addr := env.locals :: env.cells.map (·.2)
inductive Holds (Λ : Sc) (env : PySem.Env) (h : Heap) (x : Str) (v : Value) : Prop
 | aa {m} (hk : Λ.names.lookup x = some .local) (hm : h.Ns env.locals m) (e : m x = some v)
 | cell {c} (hk : Λ.names.lookup x = some .cell \/ Λ.names.lookup x = some .free) (hc : env.cells.lookup x = some c) (hv : h.IsCell c (some v))
structure a4 (C : Cx) (Λ : Sc) (env : PySem.Env) (μ : fm) (h : Heap) (ρ : Mine.Env) : Prop where
 kind : env.scope.kind = .function
 kn : ∀ y, env.kindOf y = Λ.names.lookup y
 aq : env.globals = mainGlobals
 blt : env.builtins = builtinsNs
 aa : ∃ m, h.Ns env.locals m
 yM : ∀ x c, (x, c) ∈ env.cells -> ∃ v, h.IsCell c v
 gI : ∀ a ∈ own env, a ∉ foot μ /\ C.bN.objs.size <= a
 inj : ∀ x y c, env.cells.lookup x = some c -> env.cells.lookup y = some c -> x = y
 has : ∀ x k, Λ.cL.lookup x = some k -> Λ.names.lookup x = some .cell \/ Λ.names.lookup x = some .free -> ∃ c, env.cells.lookup x = some c
 slots : ∀ x y k, Λ.cL.lookup x = some k -> Λ.cL.lookup y = some k -> x = y
 gj : ∀ x k v, Λ.cL.lookup x = some k -> ρ[k]? = some (some v) -> ∃ v', VR C.T μ h v v' /\ Holds Λ env h x v'
theorem bI {β γ : Type} [BEq β] [LawfulBEq β] {x : β} {c : γ} {l : List (β × γ)} (h : l.lookup x = some c) : (x, c) ∈ l := by
 induction l with
 | nil => cases h
 | cons y r ih =>
  rw [List.lookup_cons] at h
  cases e : x == y.1 with
  | true => rw [e] at h; rw [eq_of_beq e, <- Option.some.inj h]; exact .head _
  | false => rw [e] at h; exact .tail _ (ih h)
section
variable {env : PySem.Env} {a c : Addr} {x : Str} {v : Value}
theorem nY (h : env.cells.lookup x = some c) : c ∈ own env := .tail _ (List.mem_map.mpr ⟨(x, c), bI h, rfl⟩)
theorem z0 {v : Option Value} (hv : h.IsCell c v) : gW h c := hv.elim fun _ p _ _ e => by have hd := p.2; rw [Option.some.inj (p.1.symm.trans e)] at hd; cases hd
theorem kz {m : Str -> Option Value} (hm : h.Ns a m) : gW h a := by obtain ⟨_, _, _, ho, hd, _⟩ := hm; exact fun _ _ e => by rw [Option.some.inj (ho.symm.trans e)] at hd; cases hd
theorem x7 {m : Str -> Option Value} {v : Option Value} (hm : h.Ns a m) (hv : h.IsCell a v) : False := by
 obtain ⟨_, ho, hd⟩ := hv
 obtain ⟨_, _, _, Ck, sE, _⟩ := hm
 rw [Option.some.inj (ho.symm.trans Ck), sE] at hd
 cases hd
theorem a4.g8 (V : a4 C Λ env μ h ρ) (ha : a ∈ own env) : gW h a := by
 rcases List.mem_cons.mp ha with rfl | ha
 ·obtain ⟨m, hm⟩ := V.aa; exact kz hm
 ·obtain ⟨p, hp, rfl⟩ := List.mem_map.mp ha
  obtain ⟨v, hv⟩ := V.yM p.1 p.2 hp
  exact z0 hv
theorem a4.rO (V : a4 C Λ env μ h ρ) (ha : a ∈ own env) : a < h.objs.size := by
 rcases List.mem_cons.mp ha with rfl | ha
 ·obtain ⟨m, hm⟩ := V.aa; exact hm.lt
 ·obtain ⟨p, hp, rfl⟩ := List.mem_map.mp ha
  obtain ⟨v, hv⟩ := V.yM p.1 p.2 hp
  exact hv.lt
theorem a4.x8 (V : a4 C Λ env μ h ρ) (ha : h.objs.size <= a) : a ∉ own env := fun z => absurd (V.rO z) (Nat.not_lt.mpr ha)
theorem Holds.wG (hk : ∀ a ∈ own env, ∀ o, h.get? a = some o -> h'.get? a = some o) (q : Holds Λ env h x v) : Holds Λ env h' x v := by
 cases q with
 | aa k hm e => exact .aa k (hm.at' fun o e => hk _ (.head _) o e) e
 | cell k hc hv => obtain ⟨o, ho, hd⟩ := hv; exact .cell k hc ⟨o, hk _ (nY hc) o ho, hd⟩
theorem a4.keep (V : a4 C Λ env μ h ρ) (g : dw μ μ' h h') (hk : ∀ a ∈ own env, ∀ o, h.get? a = some o -> h'.get? a = some o) (hn : ∀ a ∈ own env, a ∉ foot μ') : a4 C Λ env μ' h' ρ :=
 {V with
  aa := let ⟨m, hm⟩ := V.aa; ⟨m, hm.at' fun o e => hk _ (.head _) o e⟩
  yM := fun x c hx => let ⟨v, o, ho, hd⟩ := V.yM x c hx; ⟨v, o, hk c (.tail _ (List.mem_map.mpr ⟨_, hx, rfl⟩)) o ho, hd⟩
  gI := fun a ha => ⟨hn a ha, (V.gI a ha).2⟩
  gj := fun x k v hx hv => let ⟨v', r, hh⟩ := V.gj x k v hx hv; ⟨v', r.aC g, hh.wG hk⟩ }
theorem a4.xt (V : a4 C Λ env μ h ρ) (x : Xt X μ μ' h h') (hx : ∀ a ∈ own env, a ∉ X) : a4 C Λ env μ' h' ρ :=
 V.keep x.aC (fun a ha o e => x.old a o e (V.gI a ha).1 (hx a ha)) fun a ha q => (x.new a q).elim (V.gI a ha).1 fun q => absurd (V.rO ha) (Nat.not_lt.mpr q)
theorem a4.qi (V : a4 C Λ env μ h ρ) (x : Xt [] μ μ' h h') : a4 C Λ env μ' h' ρ := V.xt x fun _ _ h => nomatch h
theorem a4.J8 (V : a4 C Λ env μ h ρ) (x : Xt [a] μ μ' h h') (ha : a ∉ own env) : a4 C Λ env μ' h' ρ := V.xt x fun b hb q => ha (List.mem_singleton.mp q ▸ hb)
theorem a4.OD (W : a4 C Λ env μ h ρ) {k k' : Nat} {u w : V} {y : Str} (hx : Λ.cL.lookup x = some k) (hy : Λ.cL.lookup y = some k') (hw : (ρ.set k (some u))[k']? = some (some w)) : (y = x /\ w = u) \/ (y ≠ x /\ ρ[k']? = some (some w)) := by
 by_cases e : k = k'
 ·subst e
  rw [List.getElem?_set_self' ] at hw
  cases q : ρ[k]? with
  | none => rw [q] at hw; cases hw
  | some _ => rw [q] at hw; exact .inl ⟨W.slots y x k hy hx, (Option.some.inj (Option.some.inj hw)).symm⟩
 ·rw [List.getElem?_set_ne e] at hw
  exact .inr ⟨fun q => e (Option.some.inj (hx.symm.trans (q ▸ hy))), hw⟩
theorem a4.ti (W : a4 C Λ env μ h ρ) {k : Nat} {u : V} (g : dw μ μ' h h') (hx : Λ.cL.lookup x = some k) (r : VR C.T μ h u v) (h1 : Holds Λ env h' x v) (h2 : ∀ y w, y ≠ x -> Holds Λ env h y w -> Holds Λ env h' y w) :
  ∀ y k' w, Λ.cL.lookup y = some k' -> (ρ.set k (some u))[k']? = some (some w) -> ∃ v', VR C.T μ' h' w v' /\ Holds Λ env h' y v' := fun y k' w hy hw => by
 rcases W.OD hx hy hw with ⟨rfl, rfl⟩ | ⟨eU, hw⟩
 ·exact ⟨v, r.aC g, h1⟩
 ·obtain ⟨w', HW, hh⟩ := W.gj y k' w hy hw
  exact ⟨w', HW.aC g, h2 y w' eU hh⟩
end
structure qf (d : Nat) (A : Around) : Prop where
 hh : A.handled = none
 MP : A.depth + 3 * d + 20 <= recursionLimit
 un : A.units + 40 * d + 200 <= cLine
theorem qf.u {d : Nat} {A : Around} (R : qf d A) : A.units + 20 < cLine := Nat.lt_of_lt_of_le (by lia) R.un
structure vM (C : Cx) (d : Nat) (Λ : Sc) (A : Around) (env : PySem.Env) (μ : fm) (σ : ag) (ρ : Mine.Env) (s : Shared) : Prop where
 R : qf d A
 S : SI C μ σ s.heap
 W : a4 C Λ env μ s.heap ρ
def Ap (C : Cx) (μ : fm) (s : Shared) (v : V) (σ : ag) (Q : Value -> Shared -> Prop) : Prop := ∀ h' tk μ' v', Xt [] μ μ' s.heap h' -> SI C μ' σ h' -> VR C.T μ' h' v v' -> Q v' { s with heap := h', toks := tk }
def jo (C : Cx) (μ : fm) (s : Shared) (Φ : PQ) (Q : Value -> Shared -> Prop) : Prop := ∀ v σ, Φ v σ -> Ap C μ s v σ Q
def b8 (C : Cx) (d : Nat) (c : Cl) (Λ : Sc) (e : Expr) (ex : E) : Prop :=
 ∀ {A env μ σ ρ s Q EE Φ}, vM C d Λ A env μ σ ρ s -> wE c ex ρ σ Φ -> jo C μ s Φ Q -> wpAny (model C.prog C.w) A (eval e env) Q EE s
def QL (C : Cx) (x : Str) (v : V) : Prop := ∃ g, C.mg x = some g /\ VR C.T [] C.bN v g
section
variable {d : Nat} {c : Cl} {env : PySem.Env}
theorem vM.on (G : vM C d Λ A env μ σ ρ s) (X : Xt [] μ μ' s.heap h') (S : SI C μ' σ' h') : vM C d Λ A env μ' σ' ρ { s with heap := h', toks := tk } := ⟨G.R, S, G.W.qi X⟩
theorem Ap.same {v : V} {v' : Value} {Q : Value -> Shared -> Prop} (h : Ap C μ s v σ Q) (S : SI C μ σ s.heap) (r : VR C.T μ s.heap v v') : Q v' { s with toks := tk } := h s.heap tk μ v' .refl S r
theorem Ap.aY {v : V} {Q : Value -> Shared -> Prop} (h : Ap C μ s v σ Q) (x : Xt [] μ μ' s.heap h') : Ap C μ' { s with heap := h', toks := tk } v σ Q := fun eH tB c7 Sz y S r => h eH tB c7 Sz (x.and y) S r
theorem jo.aY {Q : Value -> Shared -> Prop} (h : jo C μ s Φ Q) (x : Xt [] μ μ' s.heap h') : jo C μ' { s with heap := h', toks := tk } Φ Q := fun v σ q => (h v σ q).aY x
theorem VR.up {h : Heap} (S : SI C μ σ h) {v : V} {g : Value} (r : VR C.T [] C.bN v g) : VR C.T μ h v g := r.aC ⟨(fun n p e => by rw [List.getElem?_nil] at e; cases e), fun a vs n e => S.keep a _ e⟩
theorem mi {x : Str} {k : Nat} {v : V} {v' : Value} {M : Model} {Q : Unit -> Shared -> Prop} (S : SI C μ σ s.heap) (W : a4 C Λ env μ s.heap ρ) (hx : Λ.cL.lookup x = some k) (hk : Λ.names.lookup x = some .local) (r : VR C.T μ s.heap v v')
  (h : ∀ h' tk, Heap.SameBut env.locals s.heap h' -> SI C μ σ h' -> a4 C Λ env μ h' (ρ.set k (some v)) -> Q () { s with heap := h', toks := tk }) : wpAny M A (storeName env x v') Q EE s := by
 obtain ⟨m, hm⟩ := W.aa
 have L : env.locals ∈ own env := .head _
 refine wpAny_storeName_local ((W.kn x).trans hk) hm (fun h' hn hs => ?_) (by rw [W.kind]; rfl)
 have Sb : ∀ {c v}, s.heap.IsCell c v -> c ≠ env.locals := fun hv e => x7 hm (e ▸ hv)
 have S' := S.nc hs (W.gI _ L).1 (W.gI _ L).2 (W.g8 L)
 refine h h' _ hs S' { W with aa := ⟨_, hn⟩, yM := fun y c hc => let ⟨v, hv⟩ := W.yM y c hc; ⟨v, hv.sameBut hs (Sb hv)⟩, gj := W.ti (.nc hs (W.g8 L)) hx r (.aa hk hn (if_pos rfl)) fun y w eU hh => ?_ }
 cases hh with
 | cell k hc hv => exact .cell k hc (hv.sameBut hs (Sb hv))
 | aa hk iN e =>
  refine .aa hk hn ((if_neg eU).trans ?_)
  obtain ⟨o, es, ep, ho, hd, _, hf⟩ := hm
  obtain ⟨o', es', U0, Ck, sE, _, PD⟩ := iN
  rw [Option.some.inj (ho.symm.trans Ck), sE] at hd
  rw [<- hf, (Data.dict.inj hd).1.symm, PD, e]
theorem iD {x : Str} {k : Nat} {v : V} {v' : Value} {M : Model} {Q : Unit -> Shared -> Prop} (S : SI C μ σ s.heap) (W : a4 C Λ env μ s.heap ρ) (hx : Λ.cL.lookup x = some k) (hk : Λ.names.lookup x = some .local \/ Λ.names.lookup x = some .cell) (r : VR C.T μ s.heap v v')
  (h : ∀ h' tk, Xt (own env) μ μ s.heap h' -> SI C μ σ h' -> a4 C Λ env μ h' (ρ.set k (some v)) -> Q () { s with heap := h', toks := tk }) : wpAny M A (storeName env x v') Q EE s := by
 rcases hk with hk | hk
 ·exact mi S W hx hk r fun h' tk hs => h h' tk (.nc hs (.head _) (W.g8 (.head _)))
 ·obtain ⟨c, hc⟩ := W.has x k hx (.inl hk)
  have L : c ∈ own env := nY hc
  obtain ⟨Sy, GJ⟩ := W.yM x c (bI hc)
  refine wpAny_storeName_cell W.kind ((W.kn x).trans hk) hc GJ fun h' hn hs => ?_
  have Rk : env.locals ≠ c := fun e => let ⟨_, hm⟩ := W.aa; x7 hm (e ▸ GJ)
  refine h h' s.toks (.nc hs L (W.g8 L)) (S.nc hs (W.gI _ L).1 (W.gI _ L).2 (W.g8 L)) { W with aa := let ⟨m, hm⟩ := W.aa; ⟨m, hm.sameBut hs Rk⟩, yM := fun y c' DJ => ?_, gj := W.ti (.nc hs (W.g8 L)) hx r (.cell (.inl hk) hc hn) fun y w eU hh => ?_ }
  ·by_cases e : c' = c
   ·subst e; exact ⟨_, hn⟩
   ·obtain ⟨v, hv⟩ := W.yM y c' DJ
    exact ⟨v, hv.sameBut hs e⟩
  ·cases hh with
   | aa hk hm e => exact .aa hk (hm.sameBut hs Rk) e
   | cell hk DJ hv => exact .cell hk DJ (hv.sameBut hs fun q => eU (W.inj _ _ _ DJ (q ▸ hc)))
theorem BP {F : V -> Prop} {ρ : Mine.Env} : ∀ {k : Nat}, oh ρ k F -> ∃ v, ρ[k]? = some (some v) /\ F v := by
 induction ρ with
 | nil => intro k h; exact h.elim
 | cons x r ih =>
  intro k h
  cases k with
  | succ k => exact ih h
  | zero =>
   cases x with
   | none => exact h.elim
   | some v => exact ⟨v, rfl, h⟩
theorem Ii {x : Str} {pos : Pos} {k : Nat} (hx : Λ.cL.lookup x = some k) (hd : (x == ("__debug__" : Str)) = false) (hc : (x == ("__classdict__" : Str)) = false) : b8 C d c Λ (.Name x pos) (.aa k) := by
 intro A env μ σ ρ s Q EE Φ G h q
 obtain ⟨v, hv, φ⟩ := BP h
 obtain ⟨v', rv, hh⟩ := G.W.gj x k v hx hv
 refine wpAny_Name ?_ hd
 have q' : Q v' s := (q v σ φ).same (tk := s.toks) G.S rv
 cases hh with
 | aa hk hm e => exact wpAny_loadName_local G.W.kind ((G.W.kn x).trans hk) hm e q'
 | cell hk DJ hv => exact hk.elim (fun hk => wpAny_loadName_cell G.W.kind ((G.W.kn x).trans hk) DJ hv q') fun hk => wpAny_loadName_free G.W.kind ((G.W.kn x).trans hk) DJ hv q' hc
theorem fq {x : Str} {pos : Pos} {g : Value} {Q : Value -> Shared -> Prop} {M : Model} (G : vM C d Λ A env μ σ ρ s) (hg : C.mg x = some g) (hx : Λ.names.lookup x = some .globalImplicit) (hd : (x == ("__debug__" : Str)) = false) (q : Q g s) : wpAny M A (eval (.Name x pos) env) Q EE s :=
 Calls.Name_function_global G.W.kind ((G.W.kn x).trans hx) (Calls.loadGlobal_global (G.W.aq ▸ C.hg.keeps G.S.keep) hg q) hd
theorem Ew {x : Str} {pos : Pos} {k : Nat} {v : V} (hg : QL C x v) (hx : Λ.names.lookup x = some .globalImplicit) (hd : (x == ("__debug__" : Str)) = false) : b8 C d c Λ (.Name x pos) (.aq k v) := by
 intro A env μ σ ρ s Q EE Φ G h q
 obtain ⟨g, hg, rg⟩ := hg
 exact fq G hg hx hd ((q v σ h).same (tk := s.toks) G.S (VR.up G.S rg))
end
end
variable {x' y' : Value}
section
theorem fE {α : Type} {p : Prop} [Decidable p] {o : Option α} {F : α -> Prop} (h : dd (if p then o else none) F) : p /\ dd o F := by
 by_cases q : p
 ·rw [if_pos q] at h; exact ⟨q, h⟩
 ·rw [if_neg q] at h; exact h.elim
theorem Dn.NY {n : Nat} {σ : ag} {b b' : Bool} (x : Dn n σ b) (y : Dn n σ b') : b = b' := by
 cases x with
 | list h =>
  cases y with
  | list h' => cases Option.some.inj (h.symm.trans h'); rfl
  | dict h' => cases Option.some.inj (h.symm.trans h')
 | dict h =>
  cases y with
  | list h' => cases Option.some.inj (h.symm.trans h')
  | dict h' => cases Option.some.inj (h.symm.trans h'); rfl
theorem Dn.only {n : Nat} {σ : ag} {b : Bool} (t : Dn n σ b) : ∀ F', s6 (.ref n) σ F' -> F' b := fun F' h => by
 cases (show Hk (Dn n σ) F' from h) with
 | mk t' e' => exact t.NY t' ▸ e'
theorem lR {l k : Nat} (e : k = l) (h : l <= 1000000) : (k : Int) < 2 ^ 63 := by rw [e]; lia
noncomputable def mr : vF -> Operator
 | .add => .Add | .sub => .Sub | .fdiv => .FloorDiv | .mod => .Mod | .pow => .Pow | .band => .BitAnd | .C3 => .BitOr
section
variable {E : Value -> Shared -> Prop} {n : Nat} {a : Addr} {dx : Option Addr} {kvs : List (V × V)} {x v : V} {v' : Value} {l : List V}
theorem SI.mem (_S : SI C μ σ h) (hm : μ[n]? = some (a, dx)) : a ∈ foot μ := iH.mpr ⟨n, _, hm, .inl rfl⟩
theorem SI.vH (S : SI C μ σ h) (hm : μ[n]? = some (a, dx)) : (a == sysModules) = false :=
 beq_eq_false_iff_ne.mpr fun e => absurd C.LJ (Nat.not_lt.mpr (e ▸ S.new a (S.mem hm)))
theorem SI.list (S : SI C μ σ h) (hn : σ[n]? = some (.list l)) (hm : μ[n]? = some (a, dx)) : ∃ ck k, h.get? a = some (fV ck k) /\ eQ C.T μ h l ck.toList /\ l.length <= 1000000 /\ dx = none := S.obj n _ _ hn hm
theorem SI.dict (S : SI C μ σ h) (hn : σ[n]? = some (.dict kd kvs)) (hm : μ[n]? = some (a, dx)) : b4 C h μ a kvs kd /\ kvs.length <= 1000000 /\ dx = none := S.obj n _ _ hn hm
theorem SI.bq (S : SI C μ σ h) (hn : σ[n]? = some (.bq kvs)) (hm : μ[n]? = some (a, dx)) : b4 C h μ a kvs .str /\ kvs.length <= 1000000 /\ dx = none := S.obj n _ _ hn hm
theorem gq {ck : Array Value} {k : Nat} (o : h.get? a = some (fV ck k)) : h.IsList a ck := ⟨_, o, rfl, k, rfl⟩
theorem iw {l : Nat} {k : Nat} (e : k = l) (h : l <= 1000000) : k <= sizeLine := by rw [e, sizeLine_eq]; exact Nat.le_trans h (by decide)
theorem yw {vs : Array Value} (r : vs.size = l.length) : (!vs.isEmpty) = !l.isEmpty := by
 unfold Array.isEmpty
 rw [r]
 cases l <;> rfl
theorem gz.yw {γ : Type} {π : γ -> Value} {T : Nm} {b : List (V × γ)} (e : gz π T μ h kvs b) : (!b.isEmpty) = !kvs.isEmpty := by cases e <;> rfl
theorem yp {b : Bool} : B0 b ≠ .ae := by cases b <;> exact fun e => nomatch e
theorem fo {F : Bool -> Prop} {Q : Bool -> Shared -> Prop} (S : SI C μ σ s.heap) (r : VR C.T μ s.heap v v') (e : s6 v σ F) (q : ∀ b tk, F b -> (∀ F', s6 v σ F' -> F' b) -> Q b { s with toks := tk }) :
  wpAny (model C.prog C.w) A (PySem.truthy v') Q E s := by
 cases r with
 | none => exact truthy_none (q _ s.toks e fun _ h => h)
 | bool c => exact wpAny_truthy_bool (q _ s.toks e fun _ h => h)
 | int i t =>
  refine PyProof.Rows.truthy_int ?_
  have : (i != 0) = decide (i ≠ 0) := by by_cases q : i = 0 <;> simp [q]
  rw [this]; exact q _ s.toks e fun _ h => h
 | str => exact e.elim
 | ae ho rs hl =>
  refine truthy_tuple ⟨_, ho, rfl, _, rfl⟩ (lR rs.size hl) ?_
  rw [yw rs.size]
  exact q _ _ e fun _ h => h
 | ref hm =>
  cases e with
  | mk t e =>
  have NY := t.only
  cases t with
  | list hn =>
   obtain ⟨ck, k, o, rs, hl, _⟩ := S.list hn hm
   refine wpAny_truthy_list (gq o) (lR rs.size hl) ?_
   rw [yw rs.size]
   exact q _ _ e NY
  | dict hn hk =>
   obtain ⟨d, hl, _⟩ := S.dict hn hm
   cases d with
   | ae => exact absurd rfl hk
   | val d en =>
    refine wpAny_truthy_dict (S.vH hm) d (lR en.length hl) ?_
    rw [en.yw]
    exact q _ _ e NY
theorem SI.dT (S : SI C μ σ h) : C.bN.objs.size <= h.objs.size := by
 obtain ⟨a, o, e, h⟩ := C.yy
 exact Nat.le_trans h (Heap.lt_size (S.keep a o e))
theorem aJ (o : Obj) : ∀ b ob, h.get? b = some ob -> (h.push o).get? b = some ob := fun _ _ e => Heap.get?_push_of_some _ e
theorem a8 {o : Obj} : h.objs.size <= (h.push o).objs.size := by rw [Heap.size_push]; exact Nat.le_succ _
theorem cC {o : Obj} (ho : o.isFreed = false) : (h.push o).get? h.objs.size = some o := Heap.get?_push_size _ ho
theorem rt {l : List V} {vs : List Value} (S : SI C μ σ s.heap) (r : eQ C.T μ s.heap l vs) (hl : l.length <= 1000000) {tk : Tok} {Q : Value -> Shared -> Prop} (q : Ap C μ s (.ae l) σ Q) :
  Q (.ref s.heap.objs.size) { s with heap := s.heap.push (nM vs.toArray 0), toks := tk } :=
 q _ tk μ _ (.keep (aJ _) a8) (S.gN (aJ _)) (.ae (cC rfl) (r.aC (.keep (aJ _))) hl)
theorem nF {o : aN} {tk : Tok} {Q : Value -> Shared -> Prop} (S : SI C μ σ s.heap) (hk : ∀ b o, s.heap.get? b = some o -> h'.get? b = some o) (hz : s.heap.objs.size <= h'.objs.size) (ha : s.heap.objs.size <= a)
  (ho : dw μ (μ ++ [(a, none)]) s.heap h' -> gg C (μ ++ [(a, none)]) h' (a, none) o) (q : Ap C μ s (.ref σ.length) (σ ++ [o]) Q) : Q (.ref a) { s with heap := h', toks := tk } :=
 have hf : ∀ b, b = a \/ none = some b -> s.heap.objs.size <= b := fun b hb => hb.elim (fun e => e ▸ ha) (fun e => nomatch e)
 q h' tk _ _ (Xt.refl.add (.add hk) hk hz hf) (S.add hk (fun b hb => ⟨fun z => absurd (S.hU z) (Nat.not_lt.mpr (hf b hb)), Nat.le_trans S.dT (hf b hb)⟩) (fun e : none = some _ => nomatch e) ho) (.ref (d := none) (S.len ▸ gT))
theorem oi {l : List V} {vs : List Value} (S : SI C μ σ s.heap) (r : eQ C.T μ s.heap l vs) (hl : l.length <= 1000000) {tk : Tok} {Q : Value -> Shared -> Prop} (q : Ap C μ s (.ref σ.length) (σ ++ [.list l]) Q) :
  Q (.ref s.heap.objs.size) { s with heap := s.heap.push (fV vs.toArray 0), toks := tk } :=
 nF (o := .list l) S (aJ _) a8 (Nat.le_refl _) (fun g => ⟨_, _, cC rfl, r.aC g, hl, rfl⟩) q
theorem dm {Φ : PQ} {i : Int} {t tk : Tok} {Q : Value -> Shared -> Prop} (q : jo C μ s Φ Q) (S : SI C μ σ s.heap) (φ : Φ (.int i) σ) : Q (.int i t) { s with toks := tk } := (q _ _ φ).same S (.int i t)
theorem kt {Φ : PQ} {b : Bool} {tk : Tok} {Q : Value -> Shared -> Prop} (q : jo C μ s Φ Q) (S : SI C μ σ s.heap) (φ : Φ (.bool b) σ) : Q (.bool b) { s with toks := tk } := (q _ _ φ).same S (.bool b)
theorem Dk {a b : Addr} {xs ys : List V} {vs ws : Array Value} {n m : Nat} {Q : Value -> Shared -> Prop} (S : SI C μ σ s.heap) (ho : s.heap.get? a = some (nM vs n)) (xc : s.heap.get? b = some (nM ws m)) (rx : eQ C.T μ s.heap xs vs.toList) (ry : eQ C.T μ s.heap ys ws.toList)
  (hl : xs.length + ys.length <= 1000000) (q : Ap C μ s (.ae (xs ++ ys)) σ Q) : wpAny (model C.prog C.w) A (binaryOp .Add (.ref a) (.ref b)) Q E s := by
 have h0 : ∀ {zs : List V} {us : Array Value}, us.size = zs.length -> us.isEmpty = true -> zs = [] := fun e hv => List.length_eq_zero_iff.mp (e ▸ by unfold Array.isEmpty at hv; exact of_decide_eq_true hv)
 by_cases hv : vs.isEmpty = true
 ·rw [h0 rx.size hv] at q
  exact concat_meets ⟨_, ho, rfl⟩ ⟨_, xc, rfl⟩ noFill_tuple_add seq_tuple_add PySem.F.slot_tuple_add PySem.F.entry_tuple_add (PySem.F.args_tuple_add_2 _ _)
   (tuple_addW0 a b vs ws n m none none #[] #[] hv) ⟨ho, xc, q.same (tk := s.toks) S (.ae xc ry (Nat.le_trans (Nat.le_add_left _ _) hl))⟩
 ·by_cases hw : ws.isEmpty = true
  ·rw [h0 ry.size hw, List.append_nil] at q
   exact concat_meets ⟨_, ho, rfl⟩ ⟨_, xc, rfl⟩ noFill_tuple_add seq_tuple_add PySem.F.slot_tuple_add PySem.F.entry_tuple_add (PySem.F.args_tuple_add_2 _ _)
    (tuple_addW1 a b vs ws n m none none #[] #[] hv hw) ⟨ho, xc, q.same (tk := s.toks) S (.ae ho rx (Nat.le_trans (Nat.le_add_right _ _) hl))⟩
  ·refine P.add_tuple (n := n) (n2 := m) ho xc hv hw ?_ (iw (by rw [rx.size, ry.size]) hl)
   have q := rt (tk := s.toks) S (rx.append ry) (by rw [List.length_append]; exact hl) q
   rw [show (vs.toList ++ ws.toList).toArray = vs ++ ws by rw [<- Array.toList_append]] at q
   exact q
theorem C4 {o : vF} {Φ : PQ} {Q : Value -> Shared -> Prop} (S : SI C μ σ s.heap) (rx : VR C.T μ s.heap x x') (ry : VR C.T μ s.heap y y') (e : MY o x Φ y σ) (q : jo C μ s Φ Q) : wpAny (model C.prog C.w) A (binaryOp (mr o) x' y') Q E s := by
 cases rx with
 | ref hm =>
  cases e with
  | mk b φ =>
  cases b with
  | uc ha hb hl =>
  cases ry with
  | ref JY =>
  obtain ⟨vs, n, ho, rx, VA, _⟩ := S.list ha hm
  obtain ⟨ws, n2, xc, ry, Vz, _⟩ := S.list hb JY
  refine P.add_list (n := n) (n2 := n2) ho xc ?_ (iw (by rw [rx.size, ry.size]) hl)
  have q := oi (tk := s.toks) S (rx.append ry) (by rw [List.length_append]; exact hl) (q _ _ φ)
  rw [show (vs.toList ++ ws.toList).toArray = vs ++ ws by rw [<- Array.toList_append]] at q
  exact q
 | ae ho rx _ =>
  cases o with
  | add =>
   cases ry with
   | ae xc ry _ => have e := fE e; exact Dk S ho xc rx ry e.1 (q _ _ e.2)
   | _ => exact e.elim
  | _ => exact e.elim
 | int a t =>
  cases ry with
  | int b u =>
   cases o with
   | add => exact PyProof.Rows.add_int (dm q S e)
   | sub => exact PyProof.Rows.sub_int (dm q S e)
   | fdiv => have e := fE e; exact PyProof.Rows.floordiv_int (by have := e.1; lia) (dm q S e.2) (.inl (PyProof.noPylong_small (by have := e.1; lia)))
   | mod => have e := fE e; exact PyProof.Rows.mod_int' (by have := e.1; lia) (dm q S e.2)
   | pow =>
    have e := fE e
    obtain ⟨⟨rfl, q1, q2⟩, e⟩ := e
    refine PyProof.Rows.pow_int q1 ?_ (dm q S e)
    rw [show Builtin.Int.intBits 2 = 2 by decide]
    lia
   | band => exact PyProof.Rows.and_int (dm q S e)
   | C3 => exact PyProof.Rows.or_int (dm q S e)
  | _ => cases o <;> exact e.elim
 | _ => cases o <;> exact e.elim
end
end
section
theorem zv {α β : Type} (f : α -> β) (l : List α) : ∀ j : Nat, (l.map f).eraseIdx j = (l.eraseIdx j).map f := by
 induction l with
 | nil => exact fun _ => rfl
 | cons x r ih =>
  intro j
  cases j with
  | zero => rfl
  | succ j => exact congrArg _ (ih j)
theorem sN {β : Type} {xs : List (V × β)} (hn : (xs.map (·.1)).Nodup) : ∀ {j : Nat} {k : V} {p : β}, xs[j]? = some (k, p) -> xs.eraseIdx j = xs.filter fun x => decide (x.1 ≠ k) := by
 induction xs with
 | nil => intro j k p e; cases e
 | cons x r ih =>
  intro j k p e
  obtain ⟨hx, hn⟩ := List.nodup_cons.mp hn
  cases j with
  | zero =>
   cases e
   rw [List.filter_cons, if_neg (fun h => absurd rfl (of_decide_eq_true h : ¬_))]
   have z : r.filter (fun x => decide (x.1 ≠ k)) = r := List.filter_eq_self.mpr fun y hy => decide_eq_true (show y.1 ≠ k from fun q => hx (List.mem_map.mpr ⟨y, hy, q⟩))
   exact z.symm
  | succ j =>
   have eU : x.1 ≠ k := fun q => hx (List.mem_map.mpr ⟨(k, p), List.mem_of_getElem? e, q.symm⟩)
   rw [List.filter_cons, if_pos (decide_eq_true eU)]
   exact congrArg _ (ih hn e)
section
variable {E : Value -> Shared -> Prop} {n : Nat} {a : Addr} {dx : Option Addr} {kvs : List (V × V)} {x v : V} {v' : Value} {b : Bool}
theorem kH (hi : y.kind = some .ae) (r : VR C.T μ h y y') : ∃ a, y' = .ref a /\ (xU C.prog C.w C.T).is h y a := by
 cases r with
 | @ae l a vs n ho rs hl =>
  have hi : (if V.a5 6 (.ae l) then some KK.ae else none) = some .ae := hi
  by_cases q : V.a5 6 (.ae l) = true
  ·exact ⟨a, rfl, q, VR.nv (μ := μ) (.ae ho rs hl) q⟩
  ·rw [if_neg q] at hi; cases hi
 | _ => cases hi
theorem kG (hi : y.kind = some (B0 b)) (r : VR C.T μ h y y') : (dz C.prog C.w C.T b).is y y' = true := by
 cases r with
 | int i t => cases b <;> first | exact (KS.int i t).ok | cases hi
 | str k t q => cases b <;> first | exact (KS.str k t q).ok | cases hi
 | @ae l =>
  have hi : (if V.a5 6 (.ae l) then some KK.ae else none) = some (B0 b) := hi
  split at hi
  ·exact absurd (Option.some.inj hi).symm yp
  ·cases hi
 | _ => cases hi
theorem qn (hA : A.units + 20 < cLine) : (xU C.prog C.w C.T).room A.in1 := show A.units + 1 + 10 < cLine by lia
theorem b4.typeIs (D : b4 C s.heap μ a kvs kd) : s.TypeIs (.ref a) "dict" := let ⟨o, ho, hc⟩ := D.obj; ⟨o, ho, hc.1⟩
theorem b4.get {F : V -> Prop} {Q : Value -> Shared -> Prop} (hA : A.units + 20 < cLine) (D : b4 C s.heap μ a kvs kd) (hk : y.kind = some kd) (ry : VR C.T μ s.heap y y') (e : bJ kvs y = some v) (q : ∀ tk v', VR C.T μ s.heap v v' -> Q v' { s with toks := tk }) :
  wpAny (model C.prog C.w) A (PySem.getItem (.ref a) y') Q E s := by
 cases D with
 | ae d en =>
  obtain ⟨ka, rfl, DH⟩ := kH hk ry
  rcases en.get y with ⟨h1, _⟩ | ⟨z, p, h1, h2, rv⟩
  ·cases h1.symm.trans e
  ·cases h1.symm.trans e
   exact wpAny_getItem_heap (qn hA) DH d (by unfold atKey; rw [h2]; rfl) (q _ _ rv)
 | val d en =>
  rcases en.get y with ⟨h1, _⟩ | ⟨z, p, h1, h2, rv⟩
  ·cases h1.symm.trans e
  ·cases h1.symm.trans e
   exact wpAny_getItem_of (kG hk ry) d.mapOf (by unfold valueAt; rw [h2]; rfl) (q _ _ rv)
theorem b4.mem {op : CmpOp} {Q : Value -> Shared -> Prop} (ho : op = .In \/ op = .NotIn) (hA : A.units + 20 < cLine) (ha : (a == sysModules) = false) (D : b4 C s.heap μ a kvs kd) (hk : y.kind = some kd) (ry : VR C.T μ s.heap y y')
  (q : ∀ tk, Q (.bool (if op = .In then (bJ kvs y).isSome else !(bJ kvs y).isSome)) { s with toks := tk }) : wpAny (model C.prog C.w) A (compareOp op y' (.ref a)) Q E s := by
 have ev : ∀ {γ : Type} {π : γ -> Value} {l : List (V × γ)}, gz π C.T μ s.heap kvs l -> ((l.find? fun q => decide (q.1 = y)).map (·.2)).isSome = (bJ kvs y).isSome := fun en => by
  rw [Option.isSome_map]
  rcases en.get y with ⟨h1, h2⟩ | ⟨_, _, h1, h2, _⟩ <;> rw [h1, h2] <;> rfl
 cases D with
 | ae d en =>
  obtain ⟨ka, rfl, DH⟩ := kH hk ry
  have ev := ev en
  rcases ho with rfl | rfl
  ·exact wpAny_in_heap (qn hA) DH ha d (ev ▸ q _)
  ·exact wpAny_notIn_heap (qn hA) DH ha d (ev ▸ q _)
 | val d en =>
  have ev := ev en
  rcases ho with rfl | rfl
  ·exact wpAny_in_of (kG hk ry) ha d.mapOf (ev ▸ q _)
  ·exact wpAny_notIn_of (kG hk ry) ha d.mapOf (ev ▸ q _)
theorem b4.Np {Q : Unit -> Shared -> Prop} (hA : A.units + 20 < cLine) (S : SI C μ σ s.heap) (hn : σ[n]? = some (.dict kd kvs)) (hm : μ[n]? = some (a, dx)) (hk : y.kind = some kd) (hl : kvs.length < 1000000) (ry : VR C.T μ s.heap y y') (rv : VR C.T μ s.heap v v')
  (q : ∀ h' tk, Xt [] μ μ s.heap h' -> SI C μ (σ.set n (.dict kd (cP kvs y v))) h' -> Q () { s with heap := h', toks := tk }) : wpAny (model C.prog C.w) A (PySem.setItem (.ref a) y' v') Q E s := by
 obtain ⟨D, hz, Md⟩ := S.dict hn hm
 have a6 : ∀ h' tk, Heap.SameBut a s.heap h' -> (dw μ μ s.heap h' -> b4 C h' μ a (cP kvs y v) kd) -> Q () { s with heap := h', toks := tk } := fun h' tk hs hd =>
  let z := S.set (o' := .dict kd (cP kvs y v)) hn hm id (.inl rfl) hs fun g => ⟨hd g, Nat.le_trans (u4 _ _ _) hl, Md⟩; q h' tk z.2 z.1
 cases D with
 | ae d en =>
  obtain ⟨ka, rfl, DH⟩ := kH hk ry
  exact wpAny_setItem_heap (qn hA) DH d (fun h' sE hs => a6 h' _ hs fun g => .ae sE (vC.set (en.aC g) y (rv.aC g))) (iw en.length hz)
 | val d en => exact wpAny_setItem_pairs (kG hk ry) d (fun h' sE hs => a6 h' _ hs fun g => .val sE (qg.set (en.aC g) y (rv.aC g))) (iw en.length hz)
set_option tactic.hygienic true in
theorem BE {l : List V} {i : Int} {v : V} (e : vI l i = some v) (hl : l.length <= 1000000) : ∃ j, seqIndex? i l.length = some j /\ l[j]? = some v /\ -1000000 <= i /\ i < 1000000 /\ (0 <= i -> j = i.toNat) /\ (i < 0 -> 0 <= i + l.length /\ j = (i + l.length).toNat) := by
 unfold vI at e
 unfold seqIndex?
 split at e
 ·rename_i q
  have fP : i.toNat < l.length := (dX e)
  refine ⟨i.toNat, ?_, e, by lia, by lia, fun _ => rfl, fun h => absurd q (by lia)⟩
  simp only [if_neg (show ¬ i < 0 by lia)]
  rw [if_pos]
  simp; lia
 ·split at e
  ·rename_i q1 q
   have fP : (i + l.length).toNat < l.length := (dX e)
   refine ⟨(i + l.length).toNat, ?_, e, by lia, by lia, fun h => absurd h q1, fun _ => ⟨q, rfl⟩⟩
   simp only [if_pos (show i < 0 by lia)]
   rw [if_pos]
   simp; lia
  ·cases e
def Sub (s : Shared) (o : Value) : Prop := ∃ T, ∃ id : String, s.TypeIs o T /\ typeLookup (.type T) "__getitem__" = pure (some (.builtin id))
theorem xk {F : V -> Prop} {Q : Value -> Shared -> Prop} (hA : A.units + 20 < cLine) (S : SI C μ σ s.heap) (rx : VR C.T μ s.heap x x') (ry : VR C.T μ s.heap y y') (e : Rl x y σ F)
  (q : ∀ v tk v', F v -> VR C.T μ s.heap v v' -> Q v' { s with toks := tk }) : Sub s x' /\ wpAny (model C.prog C.w) A (PySem.getItem x' y') Q E s := by
 cases x with
 | ae l =>
  cases y with
  | int k =>
   obtain ⟨a, vs, n, rfl, ho, rs, hl⟩ := rx.DZ
   obtain ⟨t, rfl⟩ := ry.je
   cases hv : vI l k with
   | none => have e : dd (vI l k) F := e; rw [hv] at e; exact e.elim
   | some v =>
    have e : dd (vI l k) F := e
    rw [hv] at e
    obtain ⟨j, hj, hv, lo, hi, _, _⟩ := BE hv hl
    obtain ⟨v', GK, rv⟩ := rs.get hv
    have ht : IsTup s.heap a vs := ⟨_, ho, rfl, n, rfl⟩
    exact ⟨⟨_, _, ht.typeIs, slot_tuple_getitem.lookup⟩, PyProof.Rows.getItem_tuple ht (by lia) (by lia) (by rw [rs.size]; exact hj) (Array.getElem?_toList ▸ GK) (q v s.toks v' e rv)⟩
  | _ => exact e.elim
 | ref n =>
  obtain ⟨a, dx, rfl, hm⟩ := rx.i6
  cases e with
  | mk t e =>
  cases t with
  | @list l i _ hn hv =>
   obtain ⟨ck, k, o, rs, hl, _⟩ := S.list hn hm
   have hL := gq o
   obtain ⟨t, rfl⟩ := ry.je
   obtain ⟨j, hj, hv, lo, hi, h0, h1⟩ := BE hv hl
   obtain ⟨v', GK, rv⟩ := rs.get hv
   have GK : ck[j]? = some v' := Array.getElem?_toList ▸ GK
   refine ⟨⟨_, _, hL.typeIs, slot_list_getitem.lookup⟩, ?_⟩
   by_cases p : 0 <= i
   ·exact wpAny_getItem_list hL p (by lia) (h0 p ▸ GK) (q _ s.toks v' e rv)
   ·obtain ⟨p1, p2⟩ := h1 (by lia)
    exact wpAny_getItem_list_neg hL (by lia) (by rw [rs.size]; lia) (by lia) (by rw [rs.size, <- p2]; exact GK) (q _ s.toks v' e rv)
  | dict hn hk hv =>
   have D := (S.dict hn hm).1
   exact ⟨⟨_, _, D.typeIs, slot_dict_getitem.lookup⟩, D.get (F := F) hA hk ry hv fun tk v' => q _ tk v' e⟩
  | bq hn hk hv =>
   have D := (S.bq hn hm).1
   exact ⟨⟨_, _, D.typeIs, slot_dict_getitem.lookup⟩, D.get (F := F) hA hk ry hv fun tk v' => q _ tk v' e⟩
 | _ => exact e.elim
theorem jk {l : Addr} {ck : Array Value} {n : Nat} {k : Int} {t : Tok} {v : Value} {Q : Unit -> Shared -> Prop} (ho : s.heap.get? l = some (fV ck n)) (h0 : 0 <= k) (Mb : k < 2 ^ 63) (hn : k < ck.size)
  (hQ : ∀ h' n', h'.get? l = some (fV (ck.setIfInBounds k.toNat v) n') -> Heap.SameBut l s.heap h' -> Q () { s with heap := h' }) : wpAny (model C.prog C.w) A (PySem.setItem (.ref l) (.int k t) v) Q E s := by
 have hT : s.TypeIs (.ref l) "list" := ⟨_, ho, rfl⟩
 have a6 : Q () { s with heap := s.heap.update l (Obj.mapSeq (·.setIfInBounds k.toNat v)) } := hQ _ _ (IsL.update ho _) (Heap.SameBut.update ..)
 have hk : k.toNat < ck.size := by lia
 unfold PySem.setItem
 refine wpAny_holding (wpAny_bind (wpAny_sequenceKey hT (by decide) ?_))
 refine wpAny_bind (wpAny_callSpecial?_slot (name := Str.ofString "__setitem__") hT slot_list_setitem (wpAny_call_entry slot_list_setitem hT entry_list_setitem ?_ (args_list_setitem _ _ _)))
 show wpAny _ _ (Builtin.List.listSubscript? (.int k t) >>= _) _ _ s
 refine wpAny_bind (wpAny_listSubscript_int (fitsIndex_of h0 Mb) ?_)
 clear Mb hn
 obtain ⟨j, rfl⟩ := Int.eq_ofNat_of_zero_le h0
 show wpAny _ _ ((seqItemAt l j >>= fun r => pure (r.map (j, ·))) >>= _) _ _ s
 refine wpAny_bind (wpAny_bind (wpAny_seqItemAt ho rfl (wpAny_pure ?_)))
 rw [show ck[j]? = some ck[j] from Array.getElem?_eq_getElem hk]
 show wpAny _ _ (setSeqItemAt l j v >>= _) _ _ s
 exact wpAny_bind (wpAny_setSeqItemAt ho rfl (wpAny_pure ⟨.none, rfl, wpAny_pure a6⟩))
theorem vW {F : ag -> Prop} {Q : Unit -> Shared -> Prop} (hA : A.units + 20 < cLine) (S : SI C μ σ s.heap) (rx : VR C.T μ s.heap x x') (ry : VR C.T μ s.heap y y') (rv : VR C.T μ s.heap v v') (e : Q3 x y v σ F)
  (q : ∀ σ' h' tk, F σ' -> Xt [] μ μ s.heap h' -> SI C μ σ' h' -> Q () { s with heap := h', toks := tk }) : wpAny (model C.prog C.w) A (PySem.setItem x' y' v') Q E s := by
 cases rx with
 | @ref n a dx hm =>
  cases e with
  | mk t e =>
  cases t with
  | @list l i hn hk =>
   obtain ⟨ck, k, o, rs, hl, Md⟩ := S.list hn hm
   cases ry with
   | int _ t =>
   refine jk o hk.1 (by lia) (by rw [rs.size]; exact hk.2) fun h' n' Ck hs => ?_
   obtain ⟨S', X⟩ := S.set (o' := .list (l.set i.toNat v)) hn hm id (.inl rfl) hs fun g => ⟨_, n', Ck, by rw [Array.toList_setIfInBounds]; exact (eQ.aC g rs).set (rv.aC g) _, by rw [List.length_set]; exact hl, Md⟩
   exact q _ h' s.toks e X S'
  | dict hn hk hl => exact b4.Np hA S hn hm hk hl ry rv fun h' tk => q _ h' tk e
 | _ => exact e.elim
theorem rB {knd : HeapKind C.prog C.w V} {d a : Addr} {xs : List (V × Addr × Value)} {k : V} {p : Addr × Value} {Q : Option DictEntry -> Shared -> Prop} (hu : knd.room A) (Fc : knd.is s.heap k a)
  (hm : s.heap.DictOfH knd d xs) (hp : atKey xs k = some p)
  (hQ : ∀ e h', h'.DictOfH knd d (xs.filter fun x => decide (x.1 ≠ k)) -> Heap.SameBut d s.heap h' -> Q (some e) { s with heap := h', toks := s.toks + knd.draws k }) (jm : xs.length <= sizeLine) :
  wpAny (model C.prog C.w) A (Builtin.Dict.takeOut d (.ref a)) Q E s := by
 obtain ⟨o, es, ep, ho, hc, hd, he, hi, hn⟩ := id hm
 unfold Builtin.Dict.takeOut
 try with_reducible refine wpAny_holding ?_
 refine wpAny_bind (knd.pyHash hu Fc ?_)
 refine wpAny_bind (wpAny_dictFind_heap (s := { s with toks := s.toks + knd.draws k }) hu Fc ho hd he hi hn (fun LU => nomatch (atKey_none_of_get LU).symm.trans hp) fun j q hj => ?_)
 refine wpAny_bind (wpAny_dictEntries (s := { s with toks := s.toks + knd.draws k }) ho hd ?_)
 have Uu : es[j]? = some (entryOfKey knd (k, q)) := by rw [entry_at he j, hj]; rfl
 rw [Uu]
 have e2 : (es.eraseIdxIfInBounds j).toList = (xs.filter fun x => decide (x.1 ≠ k)).map (entryOfKey knd) := by
  rw [<- sN hn hj, <- zv, <- he]
  obtain ⟨l⟩ := es
  rw [List.eraseIdxIfInBounds_toArray]
 exact wpAny_bind (wpAny_updateDictKeys (hz := by rw [size_of_entries he]; exact jm) (s := { s with toks := s.toks + knd.draws k }) ho hd (wpAny_pure (hQ _ _ ⟨_, _, ep + 1, Heap.get?_update_self _ ho (Obj.isFreed_of_dict (Obj.data_mapDictKeys hd _)),
  hc.mapDictKeys _, Obj.data_mapDictKeys hd _, e2, fun y hy => knd.keeps (hi y (List.mem_filter.mp hy).1) ho hd (Heap.SameBut.update ..), hn.sublist (List.Sublist.map _ (List.filter_sublist))⟩ (Heap.SameBut.update ..))))
theorem xA {F : ag -> Prop} {Q : Unit -> Shared -> Prop} (hA : A.units + 20 < cLine) (S : SI C μ σ s.heap) (rx : VR C.T μ s.heap x x') (ry : VR C.T μ s.heap y y') (e : R9 x y σ F)
  (q : ∀ σ' h' tk, F σ' -> Xt [] μ μ s.heap h' -> SI C μ σ' h' -> Q () { s with heap := h', toks := tk }) : wpAny (model C.prog C.w) A (PySem.delItem x' y') Q E s := by
 cases rx with
 | @ref n d dx hm =>
  cases e with
  | mk t e =>
  cases t with
  | @mk kvs hn hk hs =>
   obtain ⟨D, hl, Md⟩ := S.dict hn hm
   obtain ⟨ka, rfl, DH⟩ := kH hk ry
   generalize L9 : KK.ae = kd at D
   cases D with
   | val => exact absurd L9.symm yp
   | ae D en =>
   rcases en.get y with ⟨h1, _⟩ | ⟨z, p, h1, h2, rv⟩
   ·rw [h1] at hs; cases hs
   unfold PySem.delItem
   try with_reducible refine wpAny_holding ?_
   refine wpAny_bind (wpAny_sequenceKey D.typeIs (by decide) ?_)
   refine wpAny_bind (wpAny_callSpecial?_slot (name := Str.ofString "__delitem__") D.typeIs PySem.F.slot_dict_delitem
    (wpAny_call_entry PySem.F.slot_dict_delitem D.typeIs PySem.F.entry_dict_delitem ?_ (PySem.F.args_dict_delitem_2 _ _)))
   unfold Builtin.«dict.__delitem__»
   refine wpAny_bind ?_
   unfold Builtin.Dict.dictSlotArgs
   refine wpAny_bind (wpAny_notOrdered_dict D.typeIs ?_)
   show wpAny _ _ (pure (Value.ref d, Value.ref ka)) _ _ s
   refine wpAny_pure ?_
   show wpAny _ _ (Builtin.Dict.takeOut d (.ref ka) >>= _) _ _ s
   refine wpAny_bind (rB (qn hA) DH D (p := p.2) (by unfold atKey; rw [h2]; rfl) (fun e' h' iN Ci => ?_) (iw en.length hl))
   obtain ⟨S', X⟩ := S.set (o' := .dict .ae (sP kvs y)) hn hm id (.inl rfl) Ci fun g => ⟨.ae iN ((en.aC g).U1 y), Nat.le_trans (List.length_filter_le _ _) hl, Md⟩
   exact wpAny_bind (wpAny_letGo (wpAny_pure ⟨.none, rfl, wpAny_pure (q _ h' _ e X S')⟩))
 | _ => exact e.elim
end
end
variable {Q : Value -> Shared -> Prop}
section
noncomputable def iX : Ak -> CmpOp
 | .eq => .Eq | .ne => .NotEq | .lt => .Lt | .le => .LtE | .gt => .Gt | .ge => .GtE | .is => .Is | .yt => .IsNot | .bt => .In | .d9 => .NotIn
section
variable {E : Value -> Shared -> Prop} {n : Nat} {a : Addr} {dx : Option Addr} {x : V} {b : Bool} {l : List V}
structure Of (C : Cx) (A : Around) (s : Shared) (x y : Value) (b : Bool) : Prop where
 eq : ∀ {Q E}, Q (.bool b) s -> wpAny (model C.prog C.w) A (compareOp .Eq x y) Q E s
 ne : ∀ {Q E}, Q (.bool (!b)) s -> wpAny (model C.prog C.w) A (compareOp .NotEq x y) Q E s
theorem qR {p q : PyData} {as bs : List Addr} {k : Nat} (hA : A.units + 20 < cLine) (r1 : Reads s.heap x' p as) (r2 : Reads s.heap y' q bs) (c1 : p.canLay0 = true) (c2 : q.canLay0 = true) (hd : p.depth <= k) (hk : k <= 20) : Of C A s x' y' (PyData.eqv p q) :=
 have hu : A.units + min p.depth q.depth < cLine := Nat.lt_of_le_of_lt (Nat.add_le_add_left (Nat.le_trans (Nat.min_le_left _ _) (Nat.le_trans hd hk)) _) hA
 ⟨fun q => compareEq_reads r1 r2 c1 c2 hu q, fun q => compareNe_reads r1 r2 c1 c2 hu q⟩
theorem jQ {k : Nat} (S : SI C μ σ s.heap) (hn : σ[n]? = some (.list l)) (hm : μ[n]? = some (a, dx)) (hx : l.all (V.a5 k) = true) :
  ∃ vs, Reads s.heap (.ref a) (.list (eK C.T l)) (a :: []) /\ Aq C.T s.heap k l vs /\ bL (NV C.T s.heap) l vs := by
 obtain ⟨ck, j, o, rs, _, _⟩ := S.list hn hm
 have nv := eQ.nv rs hx
 have nr := Aq.of nv hx
 exact ⟨_, .list o rfl rfl nr.reads, nr, nv⟩
theorem n7 {h : Heap} (D : b4 C h μ a [] kd) : h.DictOf (dz C.prog C.w C.T false) a [] := by
 have a6 : ∀ {o : Obj} {es : Array DictEntry} {ep : Nat}, h.get? a = some o -> o.ExactDict -> o.data = .dict es ep -> es.toList = [] -> h.DictOf (dz C.prog C.w C.T false) a [] := fun ho hc hd e =>
  ⟨_, _, _, ho, hc, hd, fun x hx => absurd (Array.mem_toList_iff.mpr hx) (by rw [e]; exact fun h => nomatch h), by rw [e]; exact .nil, .nil⟩
 cases D with
 | ae d en =>
  obtain ⟨o, es, ep, ho, hc, hd, he, hi, hn⟩ := d
  cases en
  exact a6 ho hc hd he
 | val d en =>
  obtain ⟨o, es, ep, ho, hc, hd, hk, hp, hn⟩ := d
  cases en
  refine a6 ho hc hd ?_
  generalize es.toList = l at hp
  cases hp
  rfl
theorem vD.RW (hA : A.units + 20 < cLine) (S : SI C μ σ s.heap) (rx : VR C.T μ s.heap x x') (hm : μ[n]? = some (a, dx)) (e : vD n σ .eq x b) : Of C A s x' (.ref a) b := by
 cases e with
 | uc hx hy nx ny =>
  cases rx with
  | ref I7 =>
   obtain ⟨_, r1, n1, v1⟩ := jQ S hx I7 nx
   obtain ⟨_, r2, n2, v2⟩ := jQ S hy hm ny
   have ev : PyData.eqv (.list (eK C.T _)) (.list (eK C.T _)) = decide (_ = _) := zQ v1 v2
   exact ev ▸ qR hA r1 r2 n1.s8 n2.s8 (Nat.succ_le_succ n1.depth) (by decide)
 | GZ hx hy =>
  cases rx with
  | ref I7 =>
   have d1 := n7 (S.dict hx I7).1
   have d2 := n7 (S.dict hy hm).1
   exact ⟨fun q => keq_eq (S.vH I7) (S.vH hm) d1 d2 (by lia) (fun _ => .nil) q, fun q => keq_ne (S.vH I7) (S.vH hm) d1 d2 (by lia) (fun _ => .nil) q⟩
theorem Lz {k : Nat} (hA : A.units + 20 < cLine) (hk : k <= 8) (hx : V.a5 k x = true) (hy : V.a5 k y = true) (rx : VR C.T μ s.heap x x') (ry : VR C.T μ s.heap y y') : Of C A s x' y' (decide (x = y)) := by
 have v1 := rx.nv hx
 have v2 := ry.nv hy
 exact lr v1 v2 ▸ qR hA (v1.nr hx).reads (v2.nr hy).reads (v1.nr hx).s8 (v2.nr hy).s8 (v1.nr hx).depth (by lia)
theorem Fy {F : Bool -> Prop} (e : dd (NW x y) F) : (V.a5 6 x = true /\ V.a5 6 y = true /\ F (decide (x = y))) \/ ∃ c d, x = .bool c /\ y = .bool d /\ F (c == d) := by
 cases x with
 | int a =>
  cases y with
  | int b => exact .inl ⟨rfl, rfl, (decide_eq_decide.mpr ⟨V.int.inj, congrArg _⟩ : decide (V.int a = V.int b) = decide (a = b)) ▸ e⟩
  | _ => exact e.elim
 | str a =>
  cases y with
  | str b => exact .inl ⟨rfl, rfl, (decide_eq_decide.mpr ⟨V.str.inj, congrArg _⟩ : decide (V.str a = V.str b) = decide (a = b)) ▸ e⟩
  | _ => exact e.elim
 | bool c =>
  cases y with
  | bool d => exact .inr ⟨c, d, rfl, rfl, e⟩
  | _ => exact e.elim
 | ae l => have e := fE e; exact .inl ⟨e.1.1, e.1.2, e.2⟩
 | _ => exact e.elim
theorem CL {F : Bool -> Prop} (hA : A.units + 20 < cLine) (rx : VR C.T μ s.heap x x') (ry : VR C.T μ s.heap y y') (e : dd (NW x y) F) : ∃ b, F b /\ Of C A s x' y' b := by
 rcases Fy e with h | ⟨c, d, rfl, rfl, f⟩
 ·exact ⟨_, h.2.2, Lz hA (by decide) h.1 h.2.1 rx ry⟩
 ·rw [rx.lA, ry.lA]
  exact ⟨_, f, fun q => eq_bool q, fun q => ne_bool (by cases c <;> cases d <;> exact q)⟩
theorem tW {o : Option Bool} {F : Bool -> Prop} (e : dd (It o) F) : dd o fun b => F (!b) := by
 cases o with
 | none => exact e
 | some b => exact e
theorem B7 {f : Int -> Int -> Bool} {F : Bool -> Prop} (e : dd (zA f x y) F) : ∃ a b, x = .int a /\ y = .int b /\ F (f a b) := by
 cases x with
 | int a => (cases y with | int b => exact ⟨a, b, rfl, rfl, e⟩ | _ => exact e.elim)
 | _ => exact e.elim
theorem kI {f : Int -> Int -> Bool} {F : Bool -> Prop} (rx : VR C.T μ h x x') (ry : VR C.T μ h y y') (e : dd (zA f x y) F) : ∃ a b t u, x' = .int a t /\ y' = .int b u /\ F (f a b) := by
 obtain ⟨a, b, rfl, rfl, f⟩ := B7 e
 exact rx.je.elim fun t h1 => ry.je.elim fun u h2 => ⟨a, b, t, u, h1, h2, f⟩
theorem E2 {F : Bool -> Prop} (e : dd (Rn x y) F) : (y = .none /\ F (decide (x = .none))) \/ ∃ c d, x = .bool c /\ y = .bool d /\ F (c == d) := by
 cases y with
 | none => exact .inl ⟨rfl, e⟩
 | bool d => (cases x with | bool c => exact .inr ⟨c, d, rfl, rfl, e⟩ | _ => exact e.elim)
 | _ => exact e.elim
theorem ye {k : Nat} {vs : List Value} {F : Bool -> Prop} (rx : NV C.T s.heap x x') (hx : V.a5 5 x = true) (hl : l.all (V.a5 5) = true) (r : bL (NV C.T s.heap) l vs) (hA : A.units + 20 < cLine) :
  NR C.T s.heap 5 x x' /\ Aq C.T s.heap 5 l vs /\ A.units + 1 + min (PyData.depthAll (eK C.T l)) (jK C.T x).depth < cLine /\ ((eK C.T l).any fun y => PyData.eqv y (jK C.T x)) = decide (x ∈ l) :=
 have r1 := rx.nr hx
 ⟨r1, Aq.of r hl, by have := r1.depth; have := Nat.min_le_right (PyData.depthAll (eK C.T l)) (jK C.T x).depth; lia, Ac rx r⟩
theorem yg {op : CmpOp} {F : Bool -> Prop} (ho : op = .In \/ op = .NotIn) (hA : A.units + 20 < cLine) (rx : VR C.T μ s.heap x x') (ry : VR C.T μ s.heap y y') (e : dd (IB x y) F) (q : ∀ b, F b -> Q (.bool (if op = .In then b else !b)) s) :
  wpAny (model C.prog C.w) A (compareOp op x' y') Q E s := by
 cases ry with
 | ae TU rs hl =>
  have e := fE e
  have nv := eQ.nv rs e.1.2
  obtain ⟨n1, n2, hu, ev⟩ := ye (k := 0) (F := F) (rx.nv e.1.1) e.1.1 e.1.2 nv hA
  have rc : Reads s.heap (.ref _) (.tuple (eK C.T _)) [] := .tuple TU rfl rfl n2.reads
  rcases ho with rfl | rfl
  ·exact in_tuple_reads rc n1.reads n2.s8 n1.s8 hu (ev ▸ q _ e.2)
  ·exact notIn_tuple_reads rc n1.reads n2.s8 n1.s8 hu (ev ▸ q _ e.2)
 | _ => exact e.elim
theorem yf {op : CmpOp} (ho : op = .In \/ op = .NotIn) (hA : A.units + 20 < cLine) (S : SI C μ σ s.heap) (rx : VR C.T μ s.heap x x') (hm : μ[n]? = some (a, dx)) (e : vD n σ .bt x b) (q : ∀ tk, Q (.bool (if op = .In then b else !b)) { s with toks := tk }) :
  wpAny (model C.prog C.w) A (compareOp op x' (.ref a)) Q E s := by
 cases e with
 | inl hl hx hn =>
  obtain ⟨vs, rc, n2, nv⟩ := jQ S hl hm hn
  obtain ⟨n1, n2, hu, ev⟩ := ye (k := 0) (F := fun _ => True) (rx.nv hx) hx hn nv hA
  rcases ho with rfl | rfl
  ·exact in_list_reads rc n1.reads n2.s8 n1.s8 hu (ev ▸ q s.toks)
  ·exact notIn_list_reads rc n1.reads n2.s8 n1.s8 hu (ev ▸ q s.toks)
 | Ro hd hk => exact (S.dict hd hm).1.mem ho hA (S.vH hm) hk rx q
theorem x9 (r : VR C.T μ h x x') : (x' == Value.none) = decide (x = V.none) := by cases r <;> rfl
theorem FD {o : Ak} {F : Bool -> Prop} (hA : A.units + 20 < cLine) (rx : VR C.T μ s.heap x x') (ry : VR C.T μ s.heap y y') (e : dd (zX o x y) F) (q : ∀ b tk, F b -> Q (.bool b) { s with toks := tk }) : wpAny (model C.prog C.w) A (compareOp (iX o) x' y') Q E s := by
 cases o with
 | eq => obtain ⟨b, e, t⟩ := CL hA rx ry e; exact t.eq (q b s.toks e)
 | ne => obtain ⟨b, e, t⟩ := CL hA rx ry (tW e); exact t.ne (q _ s.toks e)
 | lt => obtain ⟨_, _, _, _, rfl, rfl, e⟩ := kI rx ry e; exact PyProof.Rows.lt_int (q _ s.toks e)
 | le => obtain ⟨_, _, _, _, rfl, rfl, e⟩ := kI rx ry e; exact PyProof.Rows.le_int (q _ s.toks e)
 | gt => obtain ⟨_, _, _, _, rfl, rfl, e⟩ := kI rx ry e; exact PyProof.Rows.gt_int (q _ s.toks e)
 | ge => obtain ⟨_, _, _, _, rfl, rfl, e⟩ := kI rx ry e; exact PyProof.Rows.ge_int (q _ s.toks e)
 | is =>
  rcases E2 e with ⟨rfl, f⟩ | ⟨c, d, rfl, rfl, f⟩
  ·rw [ry.tX]; exact PySem.is_none (by rw [x9 rx]; exact q _ s.toks f)
  ·rw [rx.lA, ry.lA]; exact PyProof.Rows.is_bool (q _ s.toks f)
 | yt =>
  cases y with
  | none => rw [ry.tX]; exact PySem.isNot_none (by rw [x9 rx]; exact q _ s.toks e)
  | _ => exact e.elim
 | bt => exact yg (.inl rfl) hA rx ry e fun b h => q b s.toks h
 | d9 => exact yg (.inr rfl) hA rx ry (tW e) fun b h => q _ s.toks h
theorem CW {o : Ak} {F : Bool -> Prop} (hA : A.units + 20 < cLine) (S : SI C μ σ s.heap) (rx : VR C.T μ s.heap x x') (ry : VR C.T μ s.heap y y') (e : Sd o x y σ F) (q : ∀ b tk, F b -> Q (.bool b) { s with toks := tk }) : wpAny (model C.prog C.w) A (compareOp (iX o) x' y') Q E s := by
 cases y with
 | ref n =>
  obtain ⟨a, dx, rfl, hm⟩ := ry.i6
  cases e with
  | mk t e =>
  cases o with
  | eq => exact (t.RW hA S rx hm).eq (q _ s.toks e)
  | ne => cases t with | ne t => exact (t.RW hA S rx hm).ne (q _ s.toks e)
  | bt => exact yf (.inl rfl) hA S rx hm t fun tk => q _ tk e
  | d9 => cases t with | d9 t => exact yf (.inr rfl) hA S rx hm t fun tk => q _ tk e
  | _ => cases t
 | _ => exact FD hA rx ry e q
end
end
section
def Ag (C : Cx) (μ : fm) (s : Shared) (F : V -> ag -> Bool -> Prop) (Q : Bool -> Shared -> Prop) : Prop :=
 ∀ v σ b h' tk μ', F v σ b -> (∀ F', s6 v σ F' -> F' b) -> Xt [] μ μ' s.heap h' -> SI C μ' σ h' -> Q b { s with heap := h', toks := tk }
def pF (C : Cx) (d : Nat) (c : Cl) (Λ : Sc) (e : Expr) (ex : E) : Prop :=
 ∀ {A env μ σ ρ s Q EE} {F : V -> ag -> Bool -> Prop}, vM C d Λ A env μ σ ρ s -> wE c ex ρ σ (fun v σ' => s6 v σ' (F v σ')) -> Ag C μ s F Q -> wpAny (model C.prog C.w) A (isTrue e env (eval e env)) Q EE s
def Nf (C : Cx) (μ : fm) (s : Shared) (Ψ : PL) (n : Nat) (Q : List Value -> Shared -> Prop) : Prop :=
 ∀ vs σ h' tk μ' us, Ψ vs σ -> us.length = n -> Xt [] μ μ' s.heap h' -> SI C μ' σ h' -> eQ C.T μ' h' vs us -> Q us { s with heap := h', toks := tk }
def QJ (C : Cx) (d : Nat) (c : Cl) (Λ : Sc) (es : List Expr) (UY : EL) : Prop :=
 ∀ {A env μ σ ρ s Q EE Ψ} (pos : Pos), vM C d Λ A env μ σ ρ s -> wL c UY ρ σ Ψ -> Nf C μ s Ψ es.length Q -> wpAny (model C.prog C.w) A (spliced (backTo pos (starEach es env))) Q EE s
noncomputable def bU : Expr -> Bool
 | .Starred .. => false
 | _ => true
inductive tc (R : Expr -> E -> Prop) : List Expr -> EL -> Prop
 | nil : tc R [] .nil
 | cons {e es x xs} (h : R e x) (hs : tc R es xs) : tc R (e :: es) (.cons x xs)
noncomputable abbrev Dt (C : Cx) (d : Nat) (c : Cl) (Λ : Sc) (es : List Expr) (xs : EL) : Prop := tc (fun e x => bU e = true /\ b8 C d c Λ e x) es xs
section
variable {d : Nat} {c : Cl} {env : PySem.Env} {pos : Pos} {e l r : Expr} {ex a b : E} {es : List Expr} {xs : EL}
theorem tc.imp {R R' : Expr -> E -> Prop} (i : ∀ e x, R e x -> R' e x) (h : tc R es xs) : tc R' es xs := by
 induction h with
 | nil => exact .nil
 | cons h _ ih => exact .cons (i _ _ h) ih
theorem Ik {i : Int} {k pos} : b8 C d c Λ (.Constant (.int i) k pos) (.lit (.int i)) := fun G h q => wpAny_Constant_int (dm q G.S h)
theorem EA {b : Bool} {k pos} : b8 C d c Λ (.Constant (.bool b) k pos) (.lit (.bool b)) := fun {_ _ _ _ _ s _ _ _} G h q => wpAny_Constant_bool (kt (tk := s.toks) q G.S h)
theorem Es {k pos} : b8 C d c Λ (.Constant .none k pos) (.lit .none) := fun {_ _ _ _ _ s _ _ _} G h q => wpAny_Constant_none ((q _ _ h).same (tk := s.toks) G.S .none)
theorem Ic {x : Nat} {k pos} (hx : x < C.T.len) : b8 C d c Λ (.Constant (.str (C.T.nm x)) k pos) (.lit (.str x)) := fun G h q => wpAny_Constant_str ((q _ _ h).same G.S (.str x _ hx))
theorem Ih (h : b8 C d c Λ e ex) : b8 C d c Λ (.UnaryOp .USub e pos) (.neg ex) := fun G w q =>
 wpAny_UnaryOp (h G w fun v ab φ h' tk aR v' X S r => by
  cases r with
  | int => exact PyProof.Rows.neg_int (dm (q.aY X) S φ)
  | _ => exact φ.elim)
theorem Ip {o : vF} (hl : b8 C d c Λ l a) (hr : b8 C d c Λ r b) : b8 C d c Λ (.BinOp l (mr o) r pos) (.fQ o a b) := fun G w q =>
 wpAny_BinOp (hl G w fun _ _ φ _ _ _ _ X S rv => hr (G.on X S) φ fun _ _ cb _ _ _ _ bK ax ru => C4 ax (rv.aC bK.aC) ru cb ((q.aY X).aY bK))
theorem Ie (h : b8 C d c Λ e ex) : b8 C d c Λ (.UnaryOp .Not e pos) (.not ex) := fun G w q =>
 wpAny_UnaryOp (h G w fun _ _ φ _ _ _ _ X S rv => PySem.not_value (fo S rv φ fun _ _ φ _ => kt (q.aY X) S φ))
theorem Io {o : Ak} (hl : b8 C d c Λ l a) (hr : b8 C d c Λ r b) (hm : behindInMarks (iX o) r = false) : b8 C d c Λ (.Compare l [iX o] [r] pos) (.aB o a b) := fun G w q =>
 wpAny_Compare1 (hl G w fun _ _ φ _ _ _ _ X S rv => hr (G.on X S) φ fun _ _ cb _ _ _ _ bK ax ru => CW G.R.u ax (rv.aC bK.aC) ru cb fun _ _ φ => kt ((q.aY X).aY bK) ax φ) hm
def Br (e : Expr) : Prop := ∀ env th, isTrue e env th = (do let v <- th; standAt e.pos; holding [v] (PySem.truthy v))
theorem Ag.bool {F : V -> ag -> Bool -> Prop} {Q : Bool -> Shared -> Prop} {h' : Heap} {μ' : fm} {b : Bool} {tk : Tok} (q : Ag C μ s F Q) (X : Xt [] μ μ' s.heap h') (S : SI C μ' σ h') (φ : s6 (.bool b) σ (F (.bool b) σ)) : Q b { s with heap := h', toks := tk } :=
 q (.bool b) σ b h' tk μ' φ (fun _ h => h) X S
theorem b8.Ox (h : b8 C d c Λ e ex) (he : Br e) : pF C d c Λ e ex := fun G w q =>
 PyProof.Rows.isTrue_plain (h G w fun v ab φ _ _ _ _ X S rv => fo S rv φ fun b tk φ t => q v ab b _ tk _ φ t X S) (he _ _)
theorem Ek (h : pF C d c Λ e ex) : pF C d c Λ (.UnaryOp .Not e pos) (.not ex) := fun {_ _ _ _ _ _ _ _ F} G w q =>
 PyProof.Rows.isTrue_not (h (F := fun _ σ b => s6 (.bool (!b)) σ (F (.bool (!b)) σ)) G w fun _ _ _ _ _ _ φ _ X S => q.bool X S φ)
theorem Eo {o : Ak} (hl : b8 C d c Λ l a) (hr : b8 C d c Λ r b) (hm : behindInMarks (iX o) r = false) : pF C d c Λ (.Compare l [iX o] [r] pos) (.aB o a b) := fun G w q =>
 wpAny_isTrue_Compare1 (hl G w fun _ _ φ _ _ _ _ X S rv => hr (G.on X S) φ fun _ _ cb _ _ _ _ bK ax ru => CW G.R.u ax (rv.aC bK.aC) ru cb fun _ _ φ => wpAny_truthy_bool (q.bool (X.and bK) ax φ)) hm
theorem Ag.aY {F : V -> ag -> Bool -> Prop} {Q : Bool -> Shared -> Prop} {h' : Heap} {μ' : fm} {tk : Tok} (q : Ag C μ s F Q) (X : Xt [] μ μ' s.heap h') : Ag C μ' { s with heap := h', toks := tk } F Q := fun v σ b eH vG c7 φ t Y S => q v σ b eH vG c7 φ t (X.and Y) S
theorem Ij {g p f : Expr} {xg xp xf : E} (hg : pF C d c Λ g xg) (hp : b8 C d c Λ p xp) (hf : b8 C d c Λ f xf) : b8 C d c Λ (.IfExp g p f pos) (.ite xg xp xf) := fun {_ _ _ _ ρ _ _ _ Φ} G w q =>
 wpAny_IfExp (hg (F := fun _ σ => IL (wE c xp ρ) (wE c xf ρ) Φ σ) G w fun _ _ b _ _ _ φ _ X S => by
  cases b with
  | true => exact hp (G.on X S) φ (q.aY X)
  | false => exact hf (G.on X S) φ (q.aY X))
theorem El {g p f : Expr} {xg xp xf : E} (hg : pF C d c Λ g xg) (hp : pF C d c Λ p xp) (hf : pF C d c Λ f xf) : pF C d c Λ (.IfExp g p f pos) (.ite xg xp xf) := fun {_ _ _ _ ρ _ _ _ F} G w q =>
 PyProof.Rows.isTrue_IfExp (hg (F := fun _ σ => IL (wE c xp ρ) (wE c xf ρ) (fun v σ' => s6 v σ' (F v σ')) σ) G w fun _ _ b _ _ _ φ _ X S => by
  cases b with
  | true => exact hp (G.on X S) φ (q.aY X)
  | false => exact hf (G.on X S) φ (q.aY X))
theorem Iq (h : tc (b8 C d c Λ) es xs) : b8 C d c Λ (.BoolOp .And es pos) (.and xs) := by
 induction h with
 | nil => exact fun _ w _ => w.elim
 | @cons e es x xs h hs ih =>
  cases hs with
  | nil => exact fun G w q => PyProof.Rows.BoolOp_one (h G w q)
  | @cons e' es x' xs h' hs =>
   exact fun G w q => PyProof.Rows.BoolOp_and (h G w fun v ab φ _ _ _ _ X S rv => fo S rv φ fun b tk φ _ => by
    cases b with
    | true => exact ih (G.on X S) φ (q.aY X)
    | false => exact (q.aY X _ _ φ).same S rv)
theorem KY (h : tc (b8 C d c Λ) es xs) : b8 C d c Λ (.BoolOp .Or es pos) (.or xs) := by
 induction h with
 | nil => exact fun _ w _ => w.elim
 | @cons e es x xs h hs ih =>
  cases hs with
  | nil => exact fun G w q => PyProof.Rows.BoolOp_one (h G w q)
  | @cons e' es x' xs h' hs =>
   exact fun G w q => PyProof.Rows.BoolOp_or (h G w fun v ab φ _ _ _ _ X S rv => fo S rv φ fun b tk φ _ => by
    cases b with
    | false => exact ih (G.on X S) φ (q.aY X)
    | true => exact (q.aY X _ _ φ).same S rv)
theorem Ep (h : tc (pF C d c Λ) es xs) : pF C d c Λ (.BoolOp .And es pos) (.and xs) := by
 induction h with
 | nil => exact fun _ w _ => w.elim
 | @cons e es x xs h hs ih =>
  cases hs with
  | nil => exact fun G w q => wpAny_isTrue_BoolOp (wpAny_allTrue_And_cons (h G w fun v ab b _ _ _ φ t X S => by
    cases b with
    | true => exact wpAny_allTrue_And_nil (q v ab true _ _ _ φ t X S)
    | false => exact q v ab false _ _ _ φ t X S))
  | @cons e' es x' xs h' hs =>
   exact fun {_ _ _ _ ρ _ _ _ F} G w q => wpAny_isTrue_BoolOp (wpAny_allTrue_And_cons (h (F := fun v σ => JG true (wA c true (.cons x' xs) ρ) (fun v σ' => s6 v σ' (F v σ')) v σ) G w fun v ab b _ _ _ φ t X S => by
    cases b with
    | true => exact arm_isTrue_BoolOp .And (e' :: es) pos _ _ ▸ ih (G.on X S) φ (q.aY X)
    | false => exact q v ab false _ _ _ (t _ φ) t X S))
theorem Ia (h : tc (pF C d c Λ) es xs) : pF C d c Λ (.BoolOp .Or es pos) (.or xs) := by
 induction h with
 | nil => exact fun _ w _ => w.elim
 | @cons e es x xs h hs ih =>
  cases hs with
  | nil => exact fun G w q => wpAny_isTrue_BoolOp (wpAny_allTrue_Or_cons (h G w fun v ab b _ _ _ φ t X S => by
    cases b with
    | false => exact wpAny_allTrue_Or_nil (q v ab false _ _ _ φ t X S)
    | true => exact q v ab true _ _ _ φ t X S))
  | @cons e' es x' xs h' hs =>
   exact fun {_ _ _ _ ρ _ _ _ F} G w q => wpAny_isTrue_BoolOp (wpAny_allTrue_Or_cons (h (F := fun v σ => JG false (wA c false (.cons x' xs) ρ) (fun v σ' => s6 v σ' (F v σ')) v σ) G w fun v ab b _ _ _ φ t X S => by
    cases b with
    | false => exact arm_isTrue_BoolOp .Or (e' :: es) pos _ _ ▸ ih (G.on X S) φ (q.aY X)
    | true => exact q v ab true _ _ _ (t _ φ) t X S))
theorem bh {e : Expr} {es : List Expr} (h : bU e = true) : starEach (e :: es) env = (false, eval e env) :: starEach es env := by
 cases e <;> first | rfl | cases h
theorem ky (h : Dt C d c Λ es xs) : QJ C d c Λ es xs := by
 induction h with
 | nil => exact fun {_ _ μ σ _ s _ _ _} pos G w q => wpAny_items_nil (q [] σ s.heap s.toks μ [] w rfl .refl G.S .nil)
 | cons h hs ih =>
  exact fun {_ _ _ _ _ _ _ _ _} pos G w q => wpAny_items_cons (h.2 G w fun v ab φ h' tk aR v' X S rv => ih pos (G.on X S) φ fun vs ah eH vG gB us φ hl bK ax rs =>
   q _ _ _ _ _ _ φ (congrArg (· + 1) hl) (X.and bK) ax (.cons (rv.aC bK.aC) rs)) (bh h.1)
theorem BU {vs : List V} {us : List Value} {h : Heap} (hl : us.length = es.length) (h1 : es.length <= 1000) (rs : eQ C.T μ h vs us) : us.length <= sizeLine /\ vs.length <= 1000000 :=
 ⟨iw hl (Nat.le_trans h1 (by decide)), rs.length ▸ hl ▸ Nat.le_trans h1 (by decide)⟩
theorem By {k pos} (h : QJ C d c Λ es xs) (h1 : es.length <= 1000) : b8 C d c Λ (.Tuple es k pos) (.ae xs) := fun G w q =>
 wpAny_Tuple (h pos G w fun vs ab h' tk aR us φ hl X S rs => have z := BU hl h1 rs; ⟨z.1, rt S rs z.2 (q.aY X _ _ φ)⟩)
theorem Eu {pos} (h : QJ C d c Λ es xs) (h1 : es.length <= 1000) : b8 C d c Λ (.List es pos) (.list xs) := fun G w q =>
 wpAny_List (h pos G w fun vs ab h' tk aR us φ hl X S rs => have z := BU hl h1 rs; ⟨z.1, oi S rs z.2 (q.aY X _ _ φ)⟩)
theorem xy {h : Heap} {a : Addr} (C : Cx) (kd : KK) (ho : h.get? a = some { cls := .type "dict", data := .dict #[] }) : b4 C h μ a [] kd := by
 have hk : ∀ b, b4 C h μ a [] (B0 b) := fun b => .val ⟨_, #[], 0, ho, ⟨rfl, rfl, rfl⟩, rfl, (fun e he => absurd he (Array.not_mem_empty e)), .nil, .nil⟩ .nil
 cases kd with
 | int => exact hk false
 | str => exact hk true
 | ae => exact .ae (l := []) ⟨_, #[], 0, ho, ⟨rfl, rfl, rfl⟩, rfl, rfl, (fun _ h => nomatch h), List.nodup_nil⟩ .nil
theorem BC {kd : KK} {pos} : b8 C d c Λ (.Dict [] [] pos) (.dict kd []) := fun {_ _ _ _ _ s _ _ _} G w q =>
 wpAny_Dict_empty (nF (o := .dict kd []) (tk := s.toks) G.S (aJ _) a8 (Nat.le_refl _) (fun _ => ⟨xy C kd (cC rfl), Nat.zero_le _, rfl⟩) (q _ _ w))
theorem Ib {v i : Expr} {xv xi : E} (hv : b8 C d c Λ v xv) (hi : b8 C d c Λ i xi) (hs : ∀ a b c p, i ≠ .Slice a b c p) : b8 C d c Λ (.Subscript v i pos) (.sub xv xi) := fun G w q =>
 Subscript_ (hv G w fun _ _ φ _ _ _ v' X S rv => hi (G.on X S) φ fun _ _ cb _ _ _ u' bK ax ru => by
  obtain ⟨⟨T, id, hT, hl⟩, hg⟩ := xk G.R.u ax (rv.aC bK.aC) ru cb fun v tk y φ ry => ((q.aY X).aY bK v _ φ).same (tk := tk) ax ry
  refine tail_any hT hl hg (ops := [v', u']) ?_
  cases i <;> first | rfl | exact absurd rfl (hs _ _ _ _))
end
end
variable {o' : Value}
section
structure mM (C : Cx) (c : Nat) : Prop where
 P7 : findIn C.K (.ref (C.bY c)) "__getattribute__" = some (some (.builtin "object.__getattribute__"))
 ga : findIn C.K (.ref (C.bY c)) "__getattr__" = some none
 sa : findIn C.K (.ref (C.bY c)) "__setattr__" = some (some (.builtin "object.__setattr__"))
 over : plainOver C.K (C.bY c) = true
 dict : hasDictIn C.K (C.bY c) = true
 plain : ∀ a ∈ C.mK, findIn C.K (.ref (C.bY c)) (C.T.nm a) = some none
def C9 (o : Expr) : Prop := ∀ name env th, attributeBase o name env th = th
theorem oc {β : Type} {a k : Nat} {x : β} {r : List (Nat × β)} : ((k, x) :: r).lookup a = if k = a then some x else r.lookup a := by
 rw [List.lookup_cons]
 by_cases e : a = k
 ·rw [if_pos e.symm, beq_iff_eq.mpr e]
 ·rw [if_neg (Ne.symm e), beq_eq_false_iff_ne.mpr e]
theorem zK {n : Str} {e : DictEntry} {es : List DictEntry} (hr : e.refKey = false) : getL n (e :: es) = if e.key.isStr n then some (some e.val) else getL n es := by
 unfold getL
 rw [List.find?_cons, List.any_cons, hr]
 cases e.key.isStr n <;> rfl
theorem Bn (n : Str) (hsh : Int) (key v : Value) (es : List DictEntry) : (putL n hsh key v es).length <= es.length + 1 := by
 induction es with
 | nil => exact Nat.le_refl _
 | cons e r ih =>
  unfold putL
  split
  ·exact Nat.le_succ _
  ·exact Nat.succ_le_succ ih
theorem uO : ∀ (fs : List (Nat × V)) (a : Nat) (v : V), (oJ fs a v).length <= fs.length + 1 := fun fs a v => by
 induction fs with
 | nil => exact Nat.le_refl _
 | cons p r ih =>
  show (if p.1 = a then (p.1, v) :: r else (p.1, p.2) :: oJ r a v).length <= _
  split
  ·exact Nat.le_succ _
  ·exact Nat.succ_le_succ ih
section
variable {d : Nat} {c : Cl} {pos : Pos} {n : Nat} {a : Addr} {dx : Option Addr} {fs : List (Nat × V)} {es : List DictEntry} {o v x : V} {v' : Value} {k : Nat}
theorem Jf (r : VR C.T μ s.heap v v') : handedIn v' = true := by cases r <;> rfl
theorem yb {i j : Nat} {t : Tok} (hi : i < C.T.len) (hj : j < C.T.len) : (Value.str (C.T.nm i) t).isStr (C.T.nm j) = decide (i = j) := by
 by_cases e : i = j
 ·subst e; rw [decide_eq_true rfl]; exact BEq.rfl
 ·rw [decide_eq_false e]; exact beq_eq_false_iff_ne.mpr fun q => e (C.T.inj i j hi hj q)
theorem pD.La (f : pD C.T μ h fs es) : es.any (·.refKey) = false := by
 induction f with
 | nil => rfl
 | cons r _ ih => obtain ⟨_, ⟨_, e⟩, _⟩ := r; rw [List.any_cons, ih]; unfold DictEntry.refKey; rw [e]; rfl
theorem pD.get (f : pD C.T μ h fs es) (ha : k < C.T.len) : (fs.lookup k = none /\ getL (C.T.nm k) es = some none) \/ ∃ x v, fs.lookup k = some x /\ getL (C.T.nm k) es = some (some v) /\ VR C.T μ h x v := by
 induction f with
 | nil => exact .inl ⟨rfl, rfl⟩
 | @cons p e _ _ r hr ih =>
  obtain ⟨h1, ⟨t, h2⟩, h3⟩ := r
  rw [show ∀ r : List (Nat × V), List.lookup k (p :: r) = if p.1 = k then some p.2 else r.lookup k from fun _ => oc, zK (by unfold DictEntry.refKey; rw [h2]), h2, yb h1 ha]
  by_cases q : p.1 = k
  ·rw [if_pos q, decide_eq_true q]; exact .inr ⟨_, _, rfl, rfl, h3⟩
  ·rw [if_neg q, decide_eq_false q]; exact ih
theorem pD.set (f : pD C.T μ h fs es) {hsh : Int} {tk : Tok} (ha : k < C.T.len) (rv : VR C.T μ h x v') : pD C.T μ h (oJ fs k x) (putL (C.T.nm k) hsh (.str (C.T.nm k) tk) v' es) := by
 induction f with
 | nil => exact .cons ⟨ha, ⟨_, rfl⟩, rv⟩ .nil
 | @cons p e fs es r hr ih =>
  obtain ⟨h1, ⟨t, h2⟩, h3⟩ := r
  show pD C.T μ h (if p.1 = k then (p.1, x) :: fs else (p.1, p.2) :: oJ fs k x) (if e.key.isStr (C.T.nm k) then ⟨e.hash, e.key, v'⟩ :: es else e :: putL (C.T.nm k) hsh (.str (C.T.nm k) tk) v' es)
  rw [show e.key.isStr (C.T.nm k) = decide (p.1 = k) from h2 ▸ yb h1 ha]
  by_cases q : p.1 = k
  ·rw [if_pos q, decide_eq_true q]; exact .cons ⟨h1, ⟨t, h2⟩, rv⟩ hr
  ·rw [if_neg q, decide_eq_false q]; exact .cons ⟨h1, ⟨t, h2⟩, h3⟩ ih
structure Du (C : Cx) (μ : fm) (h : Heap) (a : Addr) (k : Nat) (fs : List (Nat × V)) (dx : Addr) (es : List DictEntry) (n : Nat) : Prop where
 ho : h.get? a = some (instObj (C.bY k) dx)
 hd : h.get? dx = some (dictOf es n)
 hf : pD C.T μ h fs es
 hl : fs.length <= 100
 hc : k < C.g9
theorem SI.aF (S : SI C μ σ h) (hn : σ[n]? = some (.aF k fs)) (hm : μ[n]? = some (a, dx)) : ∃ Qh es m, dx = some Qh /\ Du C μ h a k fs Qh es m := (S.obj n _ _ hn hm).imp fun _ h => h.imp fun _ h => h.imp fun _ h => ⟨h.1, h.2.1, h.2.2.1, h.2.2.2.1, h.2.2.2.2.1, h.2.2.2.2.2⟩
theorem Du.at {d' : Addr} {m : Nat} (I : Du C μ h a k fs d' es m) : InstAt h a (instObj (C.bY k) d') (C.bY k) (some (W.dictOf es m)) := ⟨I.ho, rfl, rfl, I.hd⟩
theorem oI {F : V -> Prop} {Q : Value -> Shared -> Prop} {ex : Bool} (K : ∀ c < C.g9, mM C c) (ha : k ∈ C.mK) (hl : k < C.T.len) (S : SI C μ σ s.heap) (ro : VR C.T μ s.heap o o') (e : Qw o k σ F)
  (q : ∀ v tk v', F v -> VR C.T μ s.heap v v' -> Q v' { s with toks := tk }) : wpAny (model C.prog C.w) A (PySem.getAttr o' (C.T.nm k) ex) Q EE s := by
 cases o with
 | ref n =>
  obtain ⟨a, d0, rfl, hm⟩ := ro.i6
  cases (show QN _ _ _ _ from e) with
  | mk hn e =>
  obtain ⟨dx, es, m, rfl, I⟩ := S.aF hn hm
  have O := K _ I.hc
  rcases I.hf.get hl with ⟨h1, _⟩ | ⟨y, v', h1, h2, rv⟩
  ·rw [h1] at e; exact e.elim
  ·rw [h1] at e
   exact get_value (C.hK.keeps S.keep) I.at O.P7 (findObj_own O.dict (O.plain k ha) rfl h2) (Jf rv) (q y _ v' e rv)
 | _ => exact e.elim
theorem v8 {dx : Addr} {m : Nat} {name : Str} {hsh : Int} {key : Value} (hd : h.get? dx = some (dictOf es m)) : (h.update dx (Obj.putName name hsh key v')).get? dx = some (dictOf (putL name hsh key v' es) (putN name es m)) := by
 rw [<- putName_dict]
 exact Heap.get?_update_self _ hd (by rw [putName_dict]; rfl)
theorem nT {F : ag -> Prop} {Q : Unit -> Shared -> Prop} (K : ∀ c < C.g9, mM C c) (ha : k ∈ C.mK) (hl : k < C.T.len) (S : SI C μ σ s.heap) (ro : VR C.T μ s.heap o o') (rv : VR C.T μ s.heap v v') (e : OG o k v σ F)
  (q : ∀ σ' h' tk, F σ' -> Xt [] μ μ s.heap h' -> SI C μ σ' h' -> Q () { s with heap := h', toks := tk }) : wpAny (model C.prog C.w) A (PySem.setAttr o' (C.T.nm k) v') Q EE s := by
 cases o with
 | ref n =>
  obtain ⟨a, d0, rfl, hm⟩ := ro.i6
  cases (show Hk (Hi _ _ _ _) _ from e) with
  | mk t φ =>
  cases t with
  | mk hn P5 =>
  obtain ⟨dx, es, m, rfl, I⟩ := S.aF hn hm
  have X := C.hK.keeps S.keep
  have O := K _ I.hc
  refine set_plain X I.at O.sa (osa_open (s := { s with toks := s.toks + 1 }) X I.at O.over (show takerIn C.K (C.bY _) (C.T.nm k) = some none by unfold takerIn; rw [O.plain k ha]; rfl) fun b => ?_)
  obtain ⟨cd, NB, Me⟩ := any_some O.dict
  have D' := v8 (v' := v') (name := C.T.nm k) (hsh := PyData.keyHash C.w.params (C.T.nm k)) (key := .str (C.T.nm k) (s.toks + 1)) I.hd
  obtain ⟨S', X'⟩ := S.set (a := dx) (o' := .aF _ (oJ _ k v)) hn hm id (.inr rfl) (Heap.SameBut.update ..) fun g =>
   ⟨dx, _, _, rfl, (Heap.get?_update_other _ _ (by rintro rfl; cases I.ho.symm.trans I.hd)).trans I.ho, D', pD.set (I.hf.imp fun _ _ r => ⟨r.1, r.2.1, r.2.2.aC g⟩) hl (rv.aC g), Nat.le_trans (uO _ _ _) P5, I.hc⟩
  refine wpAny_bind (wpAny_pure (wpAny_bind (wpAny_bind (wpAny_loadPart I.ho (wpAny_bind (looks_clsIn X NB _ _ _ _ (fun _ _ e => e) ?_))))))
  rw [Me]
  refine wpAny_pure (a := some dx) (wpAny_bind (wpAny_pure (wpAny_bind ?_)))
  unfold nsSet
  refine wpAny_bind (wpAny_bind (wpAny_askSetting (wpAny_pure (wpAny_bind (wpAny_mkText (wpAny_bind (wpAny_loadPart I.hd ?_)))))))
  have U7 : aRefKeyMayBeTheName (C.T.nm k) es.toArray = false := by rw [aRefKeyMayBeTheName_at, show es.toArray.any (·.refKey) = es.any (·.refKey) by rw [<- Array.any_toList], I.hf.La, Bool.and_false]
  show wpAny _ _ (if aRefKeyMayBeTheName (C.T.nm k) es.toArray = true then _ else _) _ _ _
  rw [U7]
  refine wpAny_updatePart I.hd (wpAny_bind (wpAny_lookBehind D' (pastItsLine_dict ?_) (wpAny_pure (q _ _ _ φ X' S'))))
  rw [List.size_toArray, sizeLine_eq]
  have := Bn (C.T.nm k) (PyData.keyHash C.w.params (C.T.nm k)) (.str (C.T.nm k) (s.toks + 1)) v' es
  have := I.hf.length
  lia
 | _ => exact e.elim
theorem EB {e : Expr} {ex : E} {n : Str} (K : ∀ c < C.g9, mM C c) (hv : b8 C d c Λ e ex) (hn : C.T.nm k = n) (ha : k ∈ C.mK) (hl : k < C.T.len) (hb : C9 e) : b8 C d c Λ (.Attribute e n pos) (.ar ex k) := fun G w q =>
 hn ▸ Attribute_any_ (hv G w fun _ _ φ _ _ _ _ X S rv => oI K ha hl S rv φ fun v tk _ φ rw => (q.aY X v _ φ).same (tk := tk) S rw) (by rw [arm_eval_Attribute, hb])
noncomputable abbrev eR (lo hi : Value) : Obj := { cls := .type "slice", data := .fields #[lo, hi, .none] }
theorem nR {ck : Array Value} {us : List Value} {lo hi : Value} {Q6 Q7 : Option Int} {l : List V} {Q : Value -> Shared -> Prop} {u w : Option Expr} {p : Pos} {e : Expr} (S : SI C μ σ s.heap) (ho : s.heap.IsList a ck) (pl : IsPart lo Q6) (ph : IsPart hi Q7)
  (he : slicePick ck Q6 Q7 none = us.toArray) (hz : ck.size <= sizeLine) (r : eQ C.T μ s.heap l us) (hl : l.length <= 1000000) (q : Ap C μ s (.ref σ.length) (σ ++ [.list l]) Q) :
  wpAny (model C.prog C.w) A (subscriptTail e (.Slice u w none p) (.ref a) (.ref s.heap.objs.size)) Q EE { s with heap := s.heap.push (eR lo hi) } := by
 have kp := aJ (h := s.heap) (eR lo hi)
 have X : Xt [] μ μ s.heap (s.heap.push (eR lo hi)) := .keep kp a8
 have hL : (s.heap.push (eR lo hi)).IsList a ck := let ⟨o, h1, h2⟩ := ho; ⟨o, kp _ _ h1, h2⟩
 refine tail_any (ops := [.ref s.heap.objs.size, .ref a]) (Heap.IsList.typeIs (s := { s with heap := s.heap.push (eR lo hi) }) hL) list_getitem_lookup (wpAny_getItem_list_slice hL (Heap.IsSliceOf.new ..) pl ph .none (fun h => nomatch h) ?_ hz) rfl
 rw [he]
 exact oi (S.gN kp) (r.aC X.aC) hl (q.aY (tk := s.toks) X)
theorem tF {up : Bool} {x y : V} {x' y' : Value} {Φ : PQ} {Q : Value -> Shared -> Prop} {u w : Option Expr} {p : Pos} {e : Expr} (S : SI C μ σ s.heap) (rx : VR C.T μ s.heap x x') (ry : VR C.T μ s.heap y y') (φ : Nc up σ Φ x y) (q : jo C μ s Φ Q) :
  wpAny (model C.prog C.w) A (subscriptTail e (.Slice u w none p) x' (.ref s.heap.objs.size)) Q EE { s with heap := s.heap.push (eR (cond up .none y') (cond up y' .none)) } := by
 cases φ with
 | yY e hn hk φ =>
  obtain ⟨a, dx, rfl, hm⟩ := rx.i6
  obtain ⟨t, rfl⟩ := ry.je
  subst e
  obtain ⟨ck, ho, rs, hl, _⟩ : ∃ ck, s.heap.IsList a ck /\ eQ C.T μ s.heap _ ck.toList /\ _ <= 1000000 /\ dx = none := S.obj _ _ _ hn hm
  exact nR S ho .none (.int _ t) (by rw [<- Int.toNat_of_nonneg hk]; exact slicePick_upto' ck _) (iw rs.size hl) (rs.take _) (Nat.le_trans (List.length_take_le' _ _) hl) (q _ _ φ)
 | «from» e hn hk φ =>
  obtain ⟨a, dx, rfl, hm⟩ := rx.i6
  obtain ⟨t, rfl⟩ := ry.je
  subst e
  obtain ⟨ck, m, ho, rs, hl, _⟩ := S.list hn hm
  exact nR S (gq ho) (.int _ t) .none (by rw [<- Int.toNat_of_nonneg hk]; exact slicePick_from' ck _) (iw rs.size hl) (rs.drop _) (Nat.le_trans (by rw [List.length_drop]; exact Nat.sub_le _ _) hl) (q _ _ φ)
theorem Er {e f : Expr} {ex fx : E} {p : Pos} (hv : b8 C d c Λ e ex) (hh : b8 C d c Λ f fx) : b8 C d c Λ (.Subscript e (.Slice none (some f) none p) pos) (.yY ex fx) := fun G w q =>
 Subscript_ (hv G w fun _ _ φ _ _ _ _ X S rv => wpAny_Slice (by
  rw [evalPart_none, evalPart_some]
  exact wpAny_pure (hh (G.on X S) φ fun _ _ cb _ _ _ _ bK ax ru => wpAny_pure (tF (up := true) ax (rv.aC bK.aC) ru cb ((q.aY X).aY bK)))))
theorem Ey {e f : Expr} {ex fx : E} {p : Pos} (hv : b8 C d c Λ e ex) (hh : b8 C d c Λ f fx) : b8 C d c Λ (.Subscript e (.Slice (some f) none none p) pos) (.from ex fx) := fun G w q =>
 Subscript_ (hv G w fun _ _ φ _ _ _ _ X S rv => wpAny_Slice (by
  rw [evalPart_none, evalPart_some]
  exact hh (G.on X S) φ fun _ _ cb _ _ _ _ bK ax ru => wpAny_pure (wpAny_pure (tF (up := false) ax (rv.aC bK.aC) ru cb ((q.aY X).aY bK)))))
end
end
section
structure vz (d : Nat) (A : Around) : Prop where
 hh : A.handled = none
 MP : A.depth + 3 * d + 19 <= recursionLimit
 un : A.units + 40 * d + 190 <= cLine
theorem qf.c {d : Nat} {A : Around} (R : qf d A) : vz d A := ⟨R.hh, Nat.le_trans (Nat.le_succ _) R.MP, Nat.le_trans (Nat.add_le_add_left (by decide) _) R.un⟩
def eX (C : Cx) (d : Nat) (c : Cl) : Prop :=
 ∀ {f args σ Φ A μ s vs} {R : Result -> Shared -> Prop}, c f args σ Φ -> vz d A -> SI C μ σ s.heap -> eQ C.T μ s.heap args vs -> jo C μ s Φ (fun v s' => R (.ok (.ret v)) s') -> codeAny (model C.prog C.w) A (.call (.ref (C.dB f)) ⟨vs, []⟩) R s
inductive j3 (C : Cx) (k : Nat) : Option (Option Nat) -> Prop
 | own {f : Nat} (h : findIn C.K (.ref (C.bY k)) "__init__" = some (some (.ref (C.dB f)))) (t : typeIn C.K (.ref (C.dB f)) = some (.type "function")) : j3 C k (some (some f))
 | obj (h : findIn C.K (.ref (C.bY k)) "__init__" = some (some (.builtin "object.__init__"))) : j3 C k (some none)
structure yU (C : Cx) (k : Nat) : Prop where
 makes : makesIn C.K (C.bY k) = true
 keep : keepIn C.K (.ref (C.bY k)) = true
 cn : j3 C k (PR.cn k)
structure xG (C : Cx) (k m f : Nat) : Prop where
 Fv : findIn C.K (.ref (C.bY k)) (C.T.nm m) = some (some (.ref (C.dB f)))
 QY : typeIn C.K (.ref (C.dB f)) = some (.type "function")
 keep : keepIn C.K (.ref (C.dB f)) = true
structure nG (C : Cx) : Prop where
 append : C.T.nm 0 = "append"
 H6 : C.T.nm 1 = "pop"
 iV : C.T.nm 2 = "extend"
 get : C.T.nm 3 = "get"
def yP (m k : Nat) : Prop := Nat.ble m 3 = true -> k = cond (Nat.beq m 1) 0 1
noncomputable def OU (c : Cl) (k : Nat) (i : Option (Option Nat)) (Q : PQ) : PL := fun vs σ => match i with
 | some none => (match vs with
  | [] => Q (.ref σ.length) (σ ++ [.aF k []])
  | _ => False)
 | some (some f) => c f (.ref σ.length :: vs) (σ ++ [.aF k []]) (yj σ.length Q)
 | none => False
section
variable {d : Nat} {c : Cl} {env : PySem.Env} {pos : Pos} {o v x : V} {v' : Value} {k : Nat}
 {args : List Expr} {xs : EL}
theorem tc.all {R : Expr -> E -> Prop} (h : tc (fun e x => bU e = true /\ R e x) args xs) : args.all bU = true := by
 induction h with
 | nil => rfl
 | cons q _ ih => exact Bool.and_eq_true_iff.mpr ⟨q.1, ih⟩
theorem BH {es : List Expr} (h : es.all bU = true) : (backTo pos (starEach es env)).any (·.1) = false /\ (backTo pos (starEach es env)).all (fun x => !x.1) = true := by
 induction es with
 | nil => exact ⟨rfl, rfl⟩
 | cons e es ih =>
  have h := Bool.and_eq_true_iff.mp h
  have ih := ih h.2
  rw [bh h.1]
  exact ⟨(congrArg (false || ·) ih.1 : _ = (false || false)), (congrArg (true && ·) ih.2 : _ = (true && true))⟩
theorem C1 {f : Value} {first : List Value} {Ψ : PL} (hk : keepIn C.K f = true) (ha : Dt C d c Λ args xs) (G : vM C d Λ A env μ σ ρ s) (w : wL c xs ρ σ Ψ) (q : Nf C μ s Ψ args.length fun us fz => wpAny (model C.prog C.w) A (PySem.call f (first ++ us)) Q EE fz) :
  wpAny (model C.prog C.w) A (callWith pos f first (backTo pos (starEach args env)) []) Q EE s := by
 have X := C.hK.keeps G.S.keep
 have go := ky ha pos G w (Q := fun us fz => C.K.In fz.heap /\ wpAny (model C.prog C.w) A (PySem.call f (first ++ us)) Q EE fz) (EE := EE) fun vs ab h' tk aR us φ hl X' S' rs => ⟨C.hK.keeps S'.keep, q vs ab h' tk aR us φ hl X' S' rs⟩
 have hp := ha.all
 cases ha with
 | nil => exact callWith_K0 X hk (q [] σ s.heap s.toks μ [] w rfl .refl G.S .nil)
 | cons h hs => exact callWith_K (h₀ := s.heap) X hk go (bh h.1) (BH (Bool.and_eq_true_iff.mp hp).2).1
theorem Ez {x : Str} {p : Pos} {f : Nat} (H : eX C d c) (hg : C.mg x = some (.ref (C.dB f))) (hk : keepIn C.K (.ref (C.dB f)) = true) (hx : Λ.names.lookup x = some .globalImplicit)
  (hd : (x == ("__debug__" : Str)) = false) (ha : Dt C d c Λ args xs) : b8 C d c Λ (.Call (.Name x p) args [] pos) (.call f xs) := fun G w q =>
 Call_Name rfl (fq G hg hx hd (C1 hk ha G w fun _ _ _ _ _ _ φ _ X S rs => wpAny_call (H φ G.R.c S rs (q.aY X))))
theorem B8 {h : Heap} (S : SI C μ σ h) (hc : k < C.g9) : SI C (μ ++ [(h.objs.size + 1, some h.objs.size)]) (σ ++ [.aF k []]) ((h.push emptyDict).push (instObj (C.bY k) h.objs.size)) /\
  Xt [] μ (μ ++ [(h.objs.size + 1, some h.objs.size)]) h ((h.push emptyDict).push (instObj (C.bY k) h.objs.size)) := by
 have hk : ∀ b ob, h.get? b = some ob -> ((h.push emptyDict).push (instObj (C.bY k) h.objs.size)).get? b = some ob := fun b ob e => aJ _ b ob (aJ _ b ob e)
 have hz : h.objs.size <= ((h.push emptyDict).push (instObj (C.bY k) h.objs.size)).objs.size := Nat.le_trans a8 a8
 have g1 : ((h.push emptyDict).push (instObj (C.bY k) h.objs.size)).get? (h.objs.size + 1) = some (instObj (C.bY k) h.objs.size) := by
  have := cC (h := h.push emptyDict) (o := instObj (C.bY k) h.objs.size) rfl
  rw [Heap.size_push] at this
  exact this
 have hf : ∀ b, b = h.objs.size + 1 \/ some h.objs.size = some b -> h.objs.size <= b := fun b hb => hb.elim (fun e => e ▸ Nat.le_succ _) fun e => Option.some.inj e ▸ Nat.le_refl _
 exact ⟨S.add (p := (h.objs.size + 1, some h.objs.size)) (o := .aF k []) hk (fun b hb => ⟨fun z => absurd (S.hU z) (Nat.not_lt.mpr (hf b hb)), Nat.le_trans S.dT (hf b hb)⟩) (fun e => absurd (Option.some.inj e) (Nat.ne_of_lt (Nat.lt_succ_self _)))
  fun gr => ⟨_, [], 0, rfl, g1, aJ _ _ _ (cC rfl), .nil, Nat.zero_le _, hc⟩, Xt.refl.add (.add hk) hk hz hf⟩
theorem qf.in1 (R : qf d A) {B : Around} (h : B.handled = A.handled) (h1 : B.depth = A.depth + 1) (h2 : B.units = A.units + 1) : vz d B :=
 ⟨h.trans R.hh, by have := R.MP; lia, by have := R.un; lia⟩
theorem EP {us : List Value} {vs : List V} {R : Result -> Shared -> Prop} (H : eX C d c) (M : yU C k) (hc : k < C.g9) (R0 : qf d A) (S : SI C μ σ s.heap) (rs : eQ C.T μ s.heap vs us) (φ : BL c k Φ vs σ)
  (q : jo C μ s Φ fun v s' => R (.ok (.ret v)) s') : codeAny (model C.prog C.w) A (.call (.ref (C.bY k)) ⟨us, []⟩) R s := by
 have K := C.hK.keeps S.keep
 have Y := makes_of (M := model C.prog C.w) K M.makes
 obtain ⟨ax, bK⟩ := B8 S hc
 have φ : OU c k (PR.cn k) Φ vs σ := φ
 have I := M.cn
 generalize PR.cn k = i at φ I
 have hm : (μ ++ [(s.heap.objs.size + 1, some s.heap.objs.size)])[σ.length]? = some (s.heap.objs.size + 1, some s.heap.objs.size) := S.len ▸ gT
 obtain ⟨h, g, dr, t, os⟩ := s
 revert φ
 cases I with
 | obj I =>
  intro φ
  cases rs with
  | cons => exact φ.elim
  | nil =>
  refine make_core Y (looks_findIn K I) (fun self => Looks.of_pure (oi_bind self)) (.inr ⟨rfl, rfl⟩) ?_
  have t1 : Looks (model C.prog C.w) ((h.push emptyDict).push (instObj (C.bY k) h.objs.size)) (typeOf (.ref (h.objs.size + 1))) (.ref (C.bY k)) := (Looks.ld (by
   have := cC (h := h.push emptyDict) (o := instObj (C.bY k) h.objs.size) rfl
   rw [Heap.size_push] at this
   exact this)).andThen .now
  have t2 : Looks (model C.prog C.w) ((h.push emptyDict).push (instObj (C.bY k) h.objs.size)) (isInstance (.ref (h.objs.size + 1)) (.type "object")) true := t1.andThen (Y.top.keeps fun b ob e => aJ _ b ob (aJ _ b ob e))
  refine codeAny_call_builtin oi_plain entry_oi (@check_slot (model C.prog C.w) _ _ _ "object.__init__" "object" "__init__" (.ref (h.objs.size + 1)) [] [] _ oi_kind oi_split t2 (oi_args (.ref (h.objs.size + 1))) (wpAny_of_eq (oi_run (.ref (h.objs.size + 1))) (And.intro rfl ?_)))
  exact q _ _ φ _ t _ _ bK ax (.ref hm)
 | own I1 I2 =>
  intro φ
  refine make_core Y (looks_findIn K I1) (fun self => bind_fn K self I2) (.inl rfl) ?_
  exact H φ (R0.in1 rfl rfl rfl) ax (.cons (.ref hm) (eQ.aC bK.aC rs)) fun v ah cb h' tk μ' v' X' S' rv => by
   cases rv with
   | none => exact ⟨rfl, q _ _ cb h' tk μ' _ (bK.and X') S' (.ref (X'.aC.map _ _ hm))⟩
   | _ => exact cb.elim
theorem Ig {x : Str} {p : Pos} (H : eX C d c) (M : yU C k) (hc : k < C.g9) (hg : C.mg x = some (.ref (C.bY k))) (hx : Λ.names.lookup x = some .globalImplicit) (hd : (x == ("__debug__" : Str)) = false) (ha : Dt C d c Λ args xs) :
  b8 C d c Λ (.Call (.Name x p) args [] pos) (.new k xs) := fun G w q =>
 Call_Name rfl (fq G hg hx hd (C1 M.keep ha G w fun _ _ _ _ _ _ φ _ X S rs => wpAny_call (EP H M hc G.R S rs φ (q.aY X))))
end
end
section
section
variable {d : Nat} {c : Cl} {env : PySem.Env} {pos : Pos} {n : Nat} {a : Addr} {dx : Option Addr} {o v x : V} {v' : Value} {k m : Nat}
 {args : List Expr} {xs : EL} {h : Heap} {l l' : List V} {ck : Array Value}
theorem gL {o : Expr} {name : Str} {sX : Pos} {ov : Value} {M : Model} (hp : args.all bU = true) (hn : args.length < 20) (uI : (sX.endLine == pos.line) = true)
  (h : ∀ pl, wpAny M A (getMethod ov name pl) (fun fr fz => wpAny M A (callWith pos fr.1 fr.2 (backTo pos (starEach args env)) []) Q EE fz) EE s) :
  wpAny M A (methodCall o name sX pos env ov (args.length + ([] : List Keyword).length) (backTo pos (starEach args env)) (backToKw pos (keywordEach [] env))) Q EE s := by
 have Ma : methodCallForm (args.length + ([] : List Keyword).length) (backTo pos (starEach args env)) (backToKw pos (keywordEach [] env)) = true := by
  show ((backTo pos (starEach args env)).all (fun x => !x.1) && true && decide (args.length + 0 + 0 < 30)) = true
  rw [(BH hp).2]; exact (decide_eq_true (Nat.lt_trans hn (by decide)) : decide (args.length < 30) = true)
 have I5 : methodCallPos true o env sX pos = pure pos := by unfold methodCallPos; rw [uI]; rfl
 unfold methodCall
 rw [Ma]
 exact wpAny_bind (wpAny_holding (wpAny_mono (h _) (fun fr fz mX => wpAny_bind (wpAny_of_eq I5 mX)) fun _ _ e => e))
theorem SI.v5 {f : Array Value -> Array Value} (S : SI C μ σ h) (hn : σ[n]? = some (.list l)) (hm : μ[n]? = some (a, dx)) (ho : h.get? a = some (fV ck m)) (r : eQ C.T μ h l' (f ck).toList) (hl : l'.length <= 1000000) :
  SI C μ (σ.set n (.list l')) (h.update a (Obj.mapSeq f)) /\ Xt [] μ μ h (h.update a (Obj.mapSeq f)) :=
 S.set (o' := .list l') hn hm id (.inl rfl) (Heap.SameBut.update ..) fun g => ⟨_, _, IsL.update ho f, r.aC g, hl, (S.list hn hm).elim fun _ h => h.elim fun _ h => h.2.2.2⟩
theorem xr {α : Type} (l : List α) : l.eraseIdx (l.length - 1) = l.dropLast := by rw [List.eraseIdx_eq_take_drop_succ, List.dropLast_eq_take]; cases l with
 | nil => rfl
 | cons x r => show List.take r.length (x :: r) ++ List.drop r.length r = List.take r.length (x :: r); rw [List.drop_eq_nil_of_le (Nat.le_refl _), List.append_nil]
theorem vS (ck : Array Value) : (ck.eraseIdxIfInBounds (ck.size - 1)).toList = ck.toList.dropLast := by
 obtain ⟨lt⟩ := ck
 rw [List.eraseIdxIfInBounds_toArray]
 exact xr lt
theorem eQ.OZ (r : eQ C.T μ h l ck.toList) (hx : l.getLast? = some x) : ∃ x', ck[ck.size - 1]? = some x' /\ VR C.T μ h x x' /\ eQ C.T μ h l.dropLast ck.toList.dropLast := by
 rw [List.getLast?_eq_getElem?, <- r.size] at hx
 obtain ⟨x', h1, h2⟩ := r.get hx
 rw [List.dropLast_eq_take, List.dropLast_eq_take, r.length]
 exact ⟨x', by rw [<- Array.getElem?_toList]; exact h1, h2, r.take _⟩
theorem rP (hl : args.length = 1) (ha : Dt C d c Λ args xs) : ∃ e x, args = [e] /\ xs = .cons x .nil /\ bU e = true /\ b8 C d c Λ e x := by
 cases ha with
 | nil => cases hl
 | cons h hs =>
  cases hs with
  | nil => exact ⟨_, _, rfl, rfl, h⟩
  | cons => cases hl
theorem Iw (hl : args.length = 0) (ha : Dt C d c Λ args xs) : args = [] /\ xs = .nil := by
 cases ha with
 | nil => exact ⟨rfl, rfl⟩
 | cons => cases hl
theorem rR {o : Obj} (ho : h.get? a = some o) (hd : o.dict = none) : ∀ b, Value.ref a = .ref b -> ∃ o, h.get? b = some o /\ o.dict = none := fun _ e => Value.ref.inj e ▸ ⟨o, ho, hd⟩
theorem vq {u : V} {u' : Value} (S : SI C μ σ s.heap) (hm : μ[n]? = some (a, dx)) (φ : Ar σ Φ (.ref n) 0 [u]) (ru : VR C.T μ s.heap u u') (q : jo C μ s Φ Q) :
  ∃ bx m, bx.size <= sizeLine /\ IsL s.heap a bx m /\ Q .none { s with heap := s.heap.update a (Obj.mapSeq fun xs => xs.push u') } := by
 generalize hz : (0 : Nat) = z at φ
 cases φ with
 | append hn hl φ =>
  obtain ⟨ck, m, ho, rs, L8, _⟩ := S.list hn hm
  obtain ⟨S', X⟩ := S.v5 (f := fun xs => xs.push u') hn hm ho (by rw [Array.toList_push]; exact rs.append (.cons ru .nil)) (by rw [List.length_append]; exact hl)
  exact ⟨ck, m, iw rs.size L8, ho, q _ _ φ _ s.toks _ _ X S' .none⟩
 | iV => cases hz
theorem uX {u : V} {u' : Value} (S : SI C μ σ s.heap) (hm : μ[n]? = some (a, dx)) (φ : Ar σ Φ (.ref n) 2 [u]) (ru : VR C.T μ s.heap u u') (q : jo C μ s Φ Q) :
  ∃ b bx rW m m2, bx.size <= sizeLine /\ bx.size + rW.size <= sizeLine + 1 /\ ¬(!bx.isEmpty && Builtin.List.listTooLong (bx.size + rW.size)) = true /\ u' = .ref b /\ IsL s.heap a bx m /\ IsL s.heap b rW m2 /\ Q .none { s with heap := s.heap.update a (Obj.mapSeq fun xs => xs ++ rW) } := by
 generalize hz : (2 : Nat) = z at φ
 cases φ with
 | append => cases hz
 | iV hn hr eU hl φ =>
  cases ru with
  | @ref _ b _ Ub =>
  obtain ⟨ck, m, ho, rs, L8, _⟩ := S.list hn hm
  obtain ⟨EZ, m2, xc, Q4, _, _⟩ := S.list hr Ub
  obtain ⟨S', X⟩ := S.v5 (f := fun xs => xs ++ EZ) hn hm ho (by rw [Array.toList_append]; exact rs.append Q4) (by rw [List.length_append]; exact hl)
  have hz : ck.size + EZ.size <= sizeLine := by rw [rs.size, Q4.size]; exact iw rfl hl
  refine ⟨b, ck, EZ, m, m2, iw rs.size L8, Nat.le_succ_of_le hz, ?_, rfl, ho, xc, q _ _ φ _ s.toks _ _ X S' .none⟩
  rw [show Builtin.List.listTooLong (ck.size + EZ.size) = false from decide_eq_false (Nat.not_lt.mpr hz), Bool.and_false]
  exact Bool.false_ne_true
theorem zw {pl : Sem Bool} (NO : nG C) (ha : Dt C d c Λ args xs) (hk : yP m args.length) (hb : Nat.ble m 2 = true) (G : vM C d Λ A env μ σ ρ s) (hn : σ[n]? = some (.list l)) (hm : μ[n]? = some (a, dx))
  (w : wL c xs ρ σ fun vs σ => Ar σ Φ (.ref n) m vs) (q : jo C μ s Φ Q) :
  wpAny (model C.prog C.w) A (getMethod (.ref a) (C.T.nm m) pl) (fun fr fz => wpAny (model C.prog C.w) A (callWith pos fr.1 fr.2 (backTo pos (starEach args env)) []) Q EE fz) EE s := by
 obtain ⟨ck, kk, ho, rs, hl, _⟩ := G.S.list hn hm
 have hT : s.TypeIs (.ref a) "list" := ⟨_, ho, rfl⟩
 have hd := rR ho rfl
 cases m with
 | zero =>
  obtain ⟨e, x, rfl, rfl, hp, h⟩ := rP (hk rfl) ha
  rw [NO.append]
  refine getMethod_builtin hT PySem.F.plainAttrs_list PySem.F.slot_list_append PySem.F.type_list_append hd ?_
  rw [bh hp]
  exact PySem.P.append_list (h G w fun v ah φ h' tk gB u' X S ru => vq S (X.aC.map _ _ hm) φ ru (q.aY X))
 | succ m =>
 cases m with
 | zero =>
  obtain ⟨rfl, rfl⟩ := Iw (hk rfl) ha
  rw [NO.H6]
  refine getMethod_builtin hT PySem.F.plainAttrs_list PySem.F.slot_list_pop PySem.F.type_list_pop hd ?_
  have φ : Ar σ Φ (.ref n) 1 [] := w
  generalize hz : (1 : Nat) = z at φ
  cases φ with
  | H6 Pr e φ =>
  cases Option.some.inj (hn.symm.trans Pr)
  obtain ⟨x', h1, rx, rd⟩ := rs.OZ e
  obtain ⟨S', X⟩ := G.S.v5 (f := fun xs => xs.eraseIdxIfInBounds (ck.size - 1)) hn hm ho (by rw [vS]; exact rd) (by rw [List.length_dropLast]; exact Nat.le_trans (Nat.sub_le _ _) hl)
  exact PySem.P.pop_list (n := kk) ho h1 (q _ _ φ _ s.toks _ _ X S' (rx.aC X.aC)) (iw rs.size hl)
 | succ m =>
 cases m with
 | zero =>
  obtain ⟨e, x, rfl, rfl, hp, h⟩ := rP (hk rfl) ha
  rw [NO.iV]
  refine getMethod_builtin hT PySem.F.plainAttrs_list PySem.F.slot_list_extend PySem.F.type_list_extend hd ?_
  rw [bh hp]
  exact PySem.P.extend_list (h G w fun v ah φ h' tk gB u' X S ru => uX S (X.aC.map _ _ hm) φ ru (q.aY X))
 | succ m => cases hb
theorem zT {y : V} {y' : Value} {kd : KK} {kvs : List (V × V)} (hA : A.units + 20 < cLine) (hs : (a == sysModules) = false) (D : b4 C s.heap μ a kvs kd) (hk : y.kind = some kd) (ry : VR C.T μ s.heap y y')
  (q : ∀ tk v', VR C.T μ s.heap ((bJ kvs y).getD .none) v' -> Q v' { s with toks := tk }) :
  s.TypeIs (.ref a) "dict" /\ argsOk "dict.get" ⟨[.ref a, y'], []⟩ /\ ∃ S, MeetsIn C.prog C.w (Builtin.«dict.get» ⟨[.ref a, y'], []⟩) S /\ S A (wants Q EE) s := by
 refine ⟨D.typeIs, PySem.F.args_dict_get_2 _ _, ?_⟩
 cases D with
 | ae d en =>
  obtain ⟨ka, rfl, DH⟩ := kH hk ry
  refine ⟨_, meetsH_dict_get (xU C.prog C.w C.T) a ka hs, qn hA, _, _, DH, d, q _ _ ?_⟩
  unfold atKey
  rcases en.get y with ⟨h1, h2⟩ | ⟨_, _, h1, h2, rv⟩ <;> rw [h1, h2]
  ·exact .none
  ·exact rv
 | @val b _ d en =>
  refine ⟨_, meets_dict_get (dz C.prog C.w C.T b) a (kG hk ry) hs, _, d.mapOf, q _ _ ?_⟩
  unfold valueAt
  rcases en.get y with ⟨h1, h2⟩ | ⟨_, _, h1, h2, rv⟩ <;> rw [h1, h2]
  ·exact .none
  ·exact rv
theorem zS {pl : Sem Bool} {kd : KK} {kvs : List (V × V)} (NO : nG C) (ha : Dt C d c Λ args xs) (hk : yP 3 args.length) (G : vM C d Λ A env μ σ ρ s) (hn : σ[n]? = some (.dict kd kvs)) (hm : μ[n]? = some (a, dx))
  (w : wL c xs ρ σ fun vs σ => Og σ Φ (.ref n) 3 vs) (q : jo C μ s Φ Q) :
  wpAny (model C.prog C.w) A (getMethod (.ref a) (C.T.nm 3) pl) (fun fr fz => wpAny (model C.prog C.w) A (callWith pos fr.1 fr.2 (backTo pos (starEach args env)) []) Q EE fz) EE s := by
 obtain ⟨D, _, _⟩ := G.S.dict hn hm
 obtain ⟨o, ho, hc⟩ := D.obj
 obtain ⟨e, x, rfl, rfl, hp, h⟩ := rP (hk rfl) ha
 rw [NO.get]
 refine getMethod_builtin D.typeIs PySem.F.plainAttrs_dict PySem.F.slot_dict_get PySem.F.type_dict_get (rR ho hc.2.1) ?_
 rw [bh hp]
 refine method1_meetsIn PySem.F.slot_dict_get PySem.F.entry_dict_get (h G w fun v ah φ h' tk gB u' X S ru => ?_)
 generalize hz : (3 : Nat) = z at φ
 cases φ with
 | get hn hk φ => exact zT G.R.u (S.vH (X.aC.map _ _ hm)) (S.dict hn (X.aC.map _ _ hm)).1 hk ru fun tk v' rv => ((q.aY X) _ _ φ).same S rv
theorem Et {e : Expr} {ex : E} {nm : Str} {sX : Pos} (H : eX C d c) (K : ∀ k < C.g9, mM C k) (KM : ∀ k < C.g9, ∀ f, PR.aM k m = some f -> xG C k m f) (NO : nG C)
  (ho : b8 C d c Λ e ex) (hn : C.T.nm m = nm) (hl : m < C.T.len) (hb : C9 e) (uI : (sX.endLine == pos.line) = true) (cQ : args.length < 20) (hk : yP m args.length) (ha : Dt C d c Λ args xs) :
  b8 C d c Λ (.Call (.Attribute e nm sX) args [] pos) (.aM ex m xs) := by
 intro A env μ σ ρ s Q EE Φ G w q
 subst hn
 rw [arm_eval_Call, hb]
 refine wpAny_bind (ho G w fun o ab φ h' tk aR o' X S ro => wpAny_bind (wpAny_standAt (gL ha.all cQ uI fun pl => ?_)))
 cases ro with
 | @ref j a dx hm =>
  cases (show Nj _ _ _ _ from φ) with
  | aF hn hf φ =>
   obtain ⟨Qh, es, m', rfl, I⟩ := S.aF hn hm
   have O := K _ I.hc
   cases xd : PR.aM _ m with
   | none => rw [xd] at φ; exact φ.elim
   | some f =>
   rw [xd] at φ
   have MO := KM _ I.hc f xd
   have JW : shadowIn (some (PySem.W.dictOf es m')) (C.T.nm m) = some false := by
    rcases I.hf.get hl with ⟨_, h2⟩ | ⟨y, v', h1, _, _⟩
    ·show (lookIn _ _).map _ = _
     rw [lookIn_dict, h2]; rfl
    ·cases h1.symm.trans hf
   exact method_fn (C.hK.keeps S.keep) I.at O.P7 O.ga MO.Fv MO.QY JW (C1 MO.keep ha (G.on X S) φ fun _ _ _ _ _ _ φ _ bK ax rs => wpAny_call (H φ G.R.c ax (.cons (.ref (bK.aC.map _ _ hm)) rs) ((q.aY X).aY bK)))
  | list hn TZ φ => exact zw NO ha hk TZ (G.on X S) hn hm φ (q.aY X)
  | dict hn e φ => subst e; exact zS NO ha hk (G.on X S) hn hm φ (q.aY X)
 | _ => exact φ.elim
end
end
section
theorem lK {M : Model} {Γ : PySem.Ctx} {p : Pos} {t : Sem Fin} {fs : List Frame} {s s' : Shared} {e : End} (h : Runs M Γ p t fs s e s') : s.heap.objs.size <= s'.heap.objs.size := by
 induction h <;> (try simp only [Shared.setGen, Heap.size_update, Heap.size_push] at *) <;> lia
theorem rI {M : Model} {Γ : PySem.Ctx} {p : Pos} {s s' : Shared} {r : Result} (h : Returns M Γ p s r s') : s.heap.objs.size <= s'.heap.objs.size := lK h
theorem vO {M : Model} {Γ : PySem.Ctx} {p : Pos} {g : Nat} {r : Resume} {s s' : Shared} {res : GenResult} (h : Wakes M Γ p g r s res s') : s.heap.objs.size <= s'.heap.objs.size := by
 unfold Wakes at h
 split at h
 ·exact h.elim
 ·split at h
  ·obtain ⟨P8, fz, hr, _, _, rfl⟩ := h; exact (lK hr : (s.setGen g .running).heap.objs.size <= fz.heap.objs.size)
  ·rw [h.2]; exact Nat.le_refl _
  ·rw [h.2]; exact Nat.le_refl _
 ·obtain ⟨P8, fz, hr, _, _, rfl⟩ := h; exact (lK hr : (s.setGen g .running).heap.objs.size <= fz.heap.objs.size)
 all_goals (rw [h.2]; exact Nat.le_refl _)
theorem DN {α : Type} (M : Model) (Γ : PySem.Ctx) (n : Nat) (t : Sem α) : ∀ (Q : α -> Pos -> Shared -> Prop) (E : Value -> Pos -> Shared -> Prop) (p : Pos) (s : Shared), n <= s.heap.objs.size -> PySem.Sem.wp M Γ t Q E p s ->
  PySem.Sem.wp M Γ t (fun a p' s' => n <= s'.heap.objs.size /\ Q a p' s') (fun e p' s' => n <= s'.heap.objs.size /\ E e p' s') p s := by
 induction t with
 | pure a => intro Q E p s hn h; exact ⟨hn, h⟩
 | raise e => intro Q E p s hn h; exact ⟨hn, h⟩
 | unsupported _ => intro Q E p s _ h; exact h
 | finish _ => intro Q E p s _ h; exact h
 | rule _ k ih => intro Q E p s hn h; exact ih () Q E p s hn h
 | «at» p' k ih => intro Q E p s hn h; exact ih () Q E p' s hn h
 | load a _ k ih => intro Q E p s hn h; obtain ⟨o, ho, h⟩ := h; exact ⟨o, ho, ih o Q E p s hn h⟩
 | update a _ f k ih => intro Q E p s hn h; exact ⟨h.1, ih () Q E p _ (by rw [Heap.size_update]; exact hn) h.2⟩
 | loadIfAlive a k ih => intro Q E p s hn h; exact ih _ Q E p s hn h
 | point _ k ih => intro Q E p s hn h; exact ih () Q E p s hn h
 | register _ _ => intro Q E p s _ h; exact h
 | alloc o k ih => intro Q E p s hn h; exact ih _ Q E p _ (by rw [Heap.size_push]; lia) h
 | fresh k ih => intro Q E p s hn h; exact ih _ Q E p _ hn h
 | ask k ih => intro Q E p s hn h; exact ih _ Q E p s hn h
 | choose bO m k ih => intro Q E p s hn h; exact ⟨h.1, ih _ Q E p _ hn h.2⟩
 | os q _ k ih => intro Q E p s hn h; exact ih _ Q E p _ hn h
 | call c hd _ _ k ih => intro Q E p s hn h; obtain ⟨r, s', hr, h⟩ := h; exact ⟨r, s', hr, ih r Q E p s' (Nat.le_trans hn (rI hr)) h⟩
 | handled own k ih => intro Q E p s hn h; exact ih _ Q E p s hn h
 | genState g k ih => intro Q E p s hn h; obtain ⟨st, hs, h⟩ := h; exact ⟨st, hs, ih _ Q E p s hn h⟩
 | newGen c k ih => intro Q E p s hn h; exact ih _ Q E p _ hn h
 | resume g r _ k ih => intro Q E p s hn h; obtain ⟨res, s', hw, h⟩ := h; exact ⟨res, s', hw, ih res Q E p s' (Nat.le_trans hn (vO hw)) h⟩
 | yield _ _ _ _ => intro Q E p s _ h; exact h
 | stack k ih => intro Q E p s hn h; exact ih _ Q E p s hn h
 | fork _ _ => intro Q E p s _ h; exact h
 | thread k ih => intro Q E p s hn h; exact ih _ Q E p s hn h
 | await _ _ _ _ _ => intro Q E p s _ h; exact h
theorem cx {α : Type} {M : Model} {A : Around} {s : Shared} {t : Sem α} {Q : α -> Shared -> Prop} {E : Value -> Shared -> Prop} (h : wpAny M A t (fun a s' => s.heap.objs.size <= s'.heap.objs.size -> Q a s') E s) : wpAny M A t Q E s :=
 fun Γ p Tl => Sem.wp_mono M Γ t (fun _ _ _ h => h.2 h.1) (fun _ _ _ h => h.2) p s (DN M Γ s.heap.objs.size t _ _ p s (Nat.le_refl _) (h Γ p Tl))
end
variable {I : Addr} {ob : Obj} {i : Nat} {bO : lH}
section
noncomputable def Cx.aW (C : Cx) (f : Addr -> Option Obj) : Cx := { C with mZ := f }
noncomputable abbrev uP (C : Cx) (a : Addr) (o : Obj) : Addr -> Option Obj := fun b => if b = a then some o else C.mZ b
noncomputable abbrev BS (a : Addr) : Obj := { cls := .type "list_iterator", data := .fields #[.ref a, .int 0 0] }
section
variable {f : Addr -> Option Obj} {n : Nat} {o o' : aN} {p : Addr × Option Addr} {kvs : List (V × V)} {a : Addr} {l : List V}
theorem b4.aW (D : b4 C h μ a kvs kd) : b4 (C.aW f) h μ a kvs kd := by
 cases D with
 | ae d e => exact .ae d e
 | val d e => exact .val d e
theorem gg.aW (x : gg C μ h p o) : gg (C.aW f) μ h p o := by
 cases o with
 | dict => exact ⟨x.1.aW, x.2⟩
 | bq => exact ⟨x.1.aW, x.2⟩
 | _ => exact x
theorem SI.Q5 (S : SI C μ σ h) (hn : σ[n]? = some o) (ho : ∀ p, gg C μ h p o -> gg C μ h p o') (hf : ∀ b ob, f b = some ob -> h.get? b = some ob /\ ∃ (m : Nat) (o : aN), μ[m]? = some (b, none) /\ (σ.set n o')[m]? = some o /\ vx o) :
  SI (C.aW f) μ (σ.set n o') h :=
 ⟨S.keep, by rw [List.length_set]; exact S.len, fun m ob p iN hp => by
  rcases Bc hn iN with ⟨rfl, rfl⟩ | ⟨e, iN⟩
  ·exact (ho p (S.obj n _ p hn hp)).aW
  ·exact (S.obj m ob p iN hp).aW, S.apart, S.new, hf⟩
theorem SI.jP (S : SI C μ σ h) (hn : σ[n]? = some (.dict .str kvs)) (hm : μ[n]? = some (a, none)) (ho : h.get? a = some ob) : C.mZ a = none /\ SI (C.aW (uP C a ob)) μ (σ.set n (.bq kvs)) h := by
 have eU : ∀ {m o}, σ[m]? = some o /\ vx o -> n ≠ m := fun h3 => by rintro rfl; exact (Option.some.inj (hn.symm.trans h3.1) ▸ h3.2 : vx (.dict .str kvs))
 refine ⟨?_, S.Q5 hn (fun _ x => x) fun b o e => ?_⟩
 ·cases e : C.mZ a with
  | none => rfl
  | some o' =>
   obtain ⟨_, m, EV, h2, h3⟩ := S.mZ a o' e
   exact absurd rfl (S.KG hm h2 (eU h3) (.inl rfl) (.inl rfl))
 ·by_cases q : b = a
  ·subst q
   cases (if_pos rfl).symm.trans e
   exact ⟨ho, n, _, hm, List.getElem?_set_self (dX hn), trivial⟩
  ·obtain ⟨h1, m, EV, h2, h3⟩ := S.mZ b o ((if_neg q).symm.trans e)
   exact ⟨h1, m, EV, h2, by rw [List.getElem?_set_ne (eU h3)]; exact h3.1, h3.2⟩
theorem SI.Ht (hf : C.mZ a = none) (S : SI (C.aW (uP C a ob)) μ σ h) (hn : σ[n]? = some (.bq kvs)) (hm : μ[n]? = some (a, none)) : SI C μ (σ.set n (.dict .str kvs)) h := by
 refine S.Q5 (f := C.mZ) hn (fun _ x => x) fun b o e => ?_
 have q : b ≠ a := by rintro rfl; cases hf.symm.trans e
 obtain ⟨h1, m, EV, h2, h3⟩ := S.mZ b o ((if_neg q).trans e)
 have eU : n ≠ m := by rintro rfl; cases hm.symm.trans h2; exact q rfl
 exact ⟨h1, m, EV, h2, by rw [List.getElem?_set_ne eU]; exact h3.1, h3.2⟩
theorem a4.aW {Λ : Sc} {env : PySem.Env} {ρ : Mine.Env} (W : a4 C Λ env μ h ρ) : a4 (C.aW f) Λ env μ h ρ :=
 ⟨W.kind, W.kn, W.aq, W.blt, W.aa, W.yM, W.gI, W.inj, W.has, W.slots, W.gj⟩
theorem a4.Rb {Λ : Sc} {env : PySem.Env} {ρ : Mine.Env} (W : a4 (C.aW f) Λ env μ h ρ) : a4 C Λ env μ h ρ :=
 ⟨W.kind, W.kn, W.aq, W.blt, W.aa, W.yM, W.gI, W.inj, W.has, W.slots, W.gj⟩
inductive fR (C : Cx) (μ : fm) (h : Heap) (I : Addr) (l : List V) (i : Nat) : lH -> Prop
 | pH (hl : ∀ (j : Nat) (x : V), l[j]? = some x -> x = .int j) (hI : IsRangeIter h I (i : Int) ((l.length : Int) - i) 1) : fR C μ h I l i .pH
 | yk {n a dx} (hm : μ[n]? = some (a, dx)) (hI : h.IsListIter I a i) : fR C μ h I l i (.seq (.ref n))
 | ae {a vs k} (ho : h.get? a = some (nM vs k)) (r : eQ C.T μ h l vs.toList) (hI : h.IsTupleIter I a i) : fR C μ h I l i (.seq (.ae l))
 | j6 {n kvs a o ep lv} (hm : μ[n]? = some (a, none)) (hf : C.mZ a = some o) (D : ∀ h : Heap, h.get? a = some o -> h.DictAt (dz C.prog C.w C.T true) a lv ep) (hk : lv.map (·.1) = l) (hI : h.IsKeyIter I a i lv.length ep) : fR C μ h I l i (.j6 n kvs)
theorem fR.Lj (x : fR C μ h I l i bO) : ∃ o, h.get? I = some o /\ o.cls ≠ .type "tuple" := by
 cases x with
 | pH _ hI => exact ⟨_, hI, ke (by decide)⟩
 | yk _ hI => obtain ⟨o, ho, hc, _⟩ := hI; exact ⟨o, ho, hc ▸ ke (by decide)⟩
 | ae _ _ hI => obtain ⟨o, ho, hc, _⟩ := hI; exact ⟨o, ho, hc ▸ ke (by decide)⟩
 | j6 _ _ _ _ hI => obtain ⟨o, ho, hc, _⟩ := hI; exact ⟨o, ho, hc ▸ ke (by decide)⟩
theorem fR.gJ (x : fR C μ h I l i bO) : gW h I := x.Lj.elim fun _ h => .of h.1 h.2
theorem fR.lt (x : fR C μ h I l i bO) : I < h.objs.size := x.Lj.elim fun _ h => Heap.lt_size h.1
theorem fR.wG (x : fR C μ h I l i bO) (g : dw μ μ' h h') (hk : ∀ o, h.get? I = some o -> h'.get? I = some o) : fR C μ' h' I l i bO := by
 cases x with
 | pH hl hI => exact .pH hl (hk _ hI)
 | yk hm hI => obtain ⟨o, ho, r⟩ := hI; exact .yk (g.map _ _ hm) ⟨o, hk _ ho, r⟩
 | ae ho r hI => obtain ⟨o, Ck, r'⟩ := hI; exact .ae (g.ae _ _ _ ho) (r.aC g) ⟨o, hk _ Ck, r'⟩
 | j6 hm hf D e hI => obtain ⟨o, ho, r⟩ := hI; exact .j6 (g.map _ _ hm) hf D e ⟨o, hk _ ho, r⟩
theorem AH {b : Bool} {k : V} {v : Value} (hk : (dz C.prog C.w C.T b).is k v = true) : VR C.T μ h k v := (fI hk).nv.vr (h := h)
end
section
variable {d : Nat} {c : Cl} {env : PySem.Env} {pos : Pos} {l : List V}
theorem jd {Q : Option Value -> Shared -> Prop} (hA : A.handled = none) (S : SI C μ σ s.heap) (x : fR C μ s.heap I l i bO) (LL : d8 bO l σ)
  (he : l[i]? = none -> ∀ h', Heap.ExtBut I s.heap h' -> s.heap.objs.size <= h'.objs.size -> Q none { s with heap := h' })
  (hi : ∀ y, l[i]? = some y -> ∀ h' tk v, VR C.T μ s.heap y v -> fR C μ h' I l (i + 1) bO -> Heap.SameBut I s.heap h' -> Q (some v) { s with heap := h', toks := tk }) : wpAny (model C.prog C.w) A (pyNext (.ref I)) Q EE s := by
 have step : ∀ {h' : Heap}, Heap.SameBut I s.heap h' -> dw μ μ s.heap h' := fun hs => .nc hs x.gJ
 cases x with
 | pH hl hI =>
  cases e : l[i]? with
  | none => exact cx (wpAny_pyNext_range_end hA hI (by have := List.getElem?_eq_none_iff.mp e; lia) fun h' Fg hz => he e h' Fg hz)
  | some y =>
   have fP := (dX e)
   refine wpAny_pyNext_range_item hI (by lia) fun h' Jj hs => ?_
   have e1 := hl i y e
   subst e1
   refine hi _ e h' _ _ (.int _ _) (.pH hl ?_) hs
   rw [show (l.length : Int) - ((i + 1 : Nat) : Int) = (l.length : Int) - i - 1 by lia]
   exact Jj
 | @yk n a dx hm hI =>
  have hn : σ[n]? = some (.list l) := LL
  obtain ⟨ck, k, ho, rs, hz, _⟩ := S.list hn hm
  cases e : l[i]? with
  | none => exact cx (wpAny_pyNext_list_end hA hI (gq ho) (by rw [Array.getElem?_eq_none]; rw [rs.size]; exact List.getElem?_eq_none_iff.mp e) fun h' Fg hz => he e h' Fg hz)
  | some y =>
   obtain ⟨v, hv, rv⟩ := rs.get e
   exact wpAny_pyNext_list_item hI (gq ho) (by rw [<- Array.getElem?_toList]; exact hv) fun h' Jj hs => hi y e h' s.toks v rv (.yk hm Jj) hs
 | @ae a vs k ho rs hI =>
  have hL : s.heap.IsTuple a vs := ⟨_, ho, rfl, k, rfl⟩
  cases e : l[i]? with
  | none => exact cx (wpAny_pyNext_tuple_end hA hI hL (by rw [Array.getElem?_eq_none]; rw [rs.size]; exact List.getElem?_eq_none_iff.mp e) fun h' Fg hz => he e h' Fg hz)
  | some y =>
   obtain ⟨v, hv, rv⟩ := rs.get e
   exact wpAny_pyNext_tuple_item hI hL (by rw [<- Array.getElem?_toList]; exact hv) fun h' Jj hs => hi y e h' s.toks v rv (.ae ((step hs).ae _ _ _ ho) (rs.aC (step hs)) Jj) hs
 | @j6 n kvs a o ep lv hm hf D hk hI =>
  have hD := D s.heap (S.mZ a o hf).1
  subst hk
  cases e : lv[i]? with
  | none => exact cx (wpAny_pyNext_dict_end hA hI hD e fun h' Fg hz => he (by rw [List.getElem?_map, e]; rfl) h' Fg hz)
  | some q =>
   exact wpAny_pyNext_dict_item hI hD e fun key h' Fc Jj hs => hi q.1 (by rw [List.getElem?_map, e]; rfl) h' s.toks key (AH Fc) (.j6 hm hf D rfl Jj) hs
def Dq (C : Cx) (μ : fm) (s : Shared) (Ψ : PS) (Q : Value -> Shared -> Prop) : Prop := ∀ bO l σ' h' tk μ' I f, Ψ bO l σ' -> Xt [] μ μ' s.heap h' -> I ∉ foot μ' -> s.heap.objs.size <= I -> SI (C.aW f) μ' σ' h' -> fR (C.aW f) μ' h' I l 0 bO -> d8 bO l σ' -> l.length <= 1000000 ->
 (∀ {c7 cy eH F}, (∀ (n : Nat) p, μ'[n]? = some p -> c7[n]? = some p) -> SI (C.aW f) c7 cy eH -> y8 bO cy F -> ∃ aA, F aA /\ SI C c7 aA eH) -> Q (.ref I) { s with heap := h', toks := tk }
def pA (C : Cx) (d : Nat) (c : Cl) (Λ : Sc) (iter : Expr) (xs : E) : Prop :=
 ∀ {A env μ σ ρ s Q EE Ψ}, vM C d Λ A env μ σ ρ s -> wS c xs ρ σ Ψ -> Dq C μ s Ψ Q -> wpAny (model C.prog C.w) A (eval iter env) (fun xv fz => wpAny (model C.prog C.w) A (pyIter xv) Q EE fz) EE s
theorem b4.strs {h : Heap} {a : Addr} {kvs : List (V × V)} (D : b4 C h μ a kvs .str) : ∃ l, h.DictOf (dz C.prog C.w C.T true) a l /\ qg C.T μ h kvs l := by
 generalize hk : KK.str = z at D
 cases D with
 | ae => cases hk
 | @val b _ d e =>
  cases b with
  | true => exact ⟨_, d, e⟩
  | false => cases hk
theorem SI.kC (S : SI C μ σ s.heap) {a : Addr} (ha : s.heap.objs.size <= a) : a ∉ foot μ := fun z => absurd (S.hU z) (Nat.not_lt.mpr ha)
theorem E0 {v : V} {v' : Value} {Ψ : PS} {Q : Value -> Shared -> Prop} (S : SI C μ σ s.heap) (rv : VR C.T μ s.heap v v') (φ : tD Ψ v σ) (q : Dq C μ s Ψ Q) : wpAny (model C.prog C.w) A (pyIter v') Q EE s := by
 cases rv with
 | @ref n a dx hm =>
  cases (show N7 _ _ _ from φ) with
  | @dict kvs hn φ =>
   obtain ⟨D, hz, rfl⟩ := S.dict hn hm
   obtain ⟨lv, hd, en⟩ := D.strs
   obtain ⟨o, es, ep, ho, k1, k2, k3, k4, k5⟩ := id hd
   obtain ⟨hf, SL⟩ := S.jP hn hm ho
   refine wpAny_pyIter_dict (S.vH hm) (knd := dz C.prog C.w C.T true) ⟨o, es, ho, k1, k2, k3, k4, k5⟩ ?_
   exact q _ _ _ _ s.toks μ _ (uP C a o) φ (.keep (aJ _) a8) (S.kC (Nat.le_refl _)) (Nat.le_refl _) (SL.gN (aJ _))
    (.j6 hm (if_pos rfl) (fun h ho => ⟨o, es, ho, k1, k2, k3, k4, k5⟩) en.bC ⟨_, cC rfl, rfl, rfl⟩) (List.getElem?_set_self (dX hn)) (by rw [List.length_map]; exact hz)
    fun {c7 cy eH F} hg l5 hu => by
     cases (show Sj _ _ _ _ from hu) with
     | mk hl hF => exact ⟨_, hF, l5.Ht hf hl (hg _ _ hm)⟩
  | list hn φ =>
   obtain ⟨ck, k, ho, rs, hz, _⟩ := S.list hn hm
   exact wpAny_pyIter_list (gq ho) (q _ _ _ _ s.toks μ _ C.mZ φ (.keep (aJ _) a8) (S.kC (Nat.le_refl _)) (Nat.le_refl _) (S.gN (aJ _)) (.yk hm ⟨_, cC rfl, rfl, rfl⟩) hn hz fun _ l5 hu => ⟨_, hu, l5⟩)
 | @ae l a vs n ho rs hl =>
  have X : Xt [] μ μ s.heap (s.heap.push { cls := .type "tuple_iterator", data := .fields #[.ref a, .int 0 0] }) := .keep (aJ _) a8
  exact wpAny_pyIter_tuple ⟨_, ho, rfl, n, rfl⟩ (q _ _ _ _ s.toks μ _ C.mZ φ X (S.kC (Nat.le_refl _)) (Nat.le_refl _) (S.gN (aJ _)) (.ae (aJ _ _ _ ho) (eQ.aC X.aC rs) ⟨_, cC rfl, rfl, rfl⟩) rfl hl fun _ l5 hu => ⟨_, hu, l5⟩)
 | _ => exact φ.elim
theorem Dq.aY {Ψ : PS} {Q : Value -> Shared -> Prop} {h' : Heap} {μ' : fm} {tk : Tok} (q : Dq C μ s Ψ Q) (X : Xt [] μ μ' s.heap h') : Dq C μ' { s with heap := h', toks := tk } Ψ Q := fun bO l σ' eH vG c7 I f φ Y hI hs S it st hl un =>
 q bO l σ' eH vG c7 I f φ (X.and Y) hI (Nat.le_trans X.size hs) S it st hl un
theorem Bz {iter : Expr} {x : E} (h : b8 C d c Λ iter x) (hr : ∀ {ρ σ Ψ}, wS c x ρ σ Ψ -> wE c x ρ σ (tD Ψ)) : pA C d c Λ iter x := fun G w q =>
 h G (hr w) fun _ _ φ _ _ _ _ X S rv => E0 S rv φ (q.aY X)
theorem zh {n : Int} {j : Nat} {x : V} (h : (fB n)[j]? = some x) : x = .int j := by
 unfold fB at h
 rw [List.getElem?_map] at h
 obtain ⟨y, hy, rfl⟩ := Option.map_eq_some_iff.mp h
 obtain ⟨h1, rfl⟩ := List.getElem?_eq_some_iff.mp hy
 rw [List.getElem_range]
theorem BA {x : Str} {p : Pos} {e : Expr} {ex : E} (hx : x = "range") (hg : C.mg x = none) (hn : Λ.names.lookup x = some .globalImplicit) (h : b8 C d c Λ e ex) (hp : bU e = true) : pA C d c Λ (.Call (.Name x p) [e] [] pos) (.range ex) := fun {_ _ _ _ _ _ _ _ Ψ} G w q => by
 subst hx
 refine wpAny_Call_NameR (Calls.Name_function_global G.W.kind ((G.W.kn _).trans hn) (Calls.loadGlobal_builtin (G.W.aq ▸ C.hg.keeps G.S.keep) hg (G.W.blt ▸ C.hb.keeps G.S.keep) ((C.NC _ (by decide +kernel)).trans PyProof.Rows.Boot.«range») ?_))
 rw [bh hp]
 refine PySem.callWith_type1 (h G w fun _ _ φ h' tk aR _ X S rv => ?_)
 cases rv with
 | int i t =>
  obtain ⟨⟨h1, h2⟩, φ⟩ := φ
  refine call_range_1 (wpAny_pyIter_range (IsRange.new ..) (small_one (by decide) (by decide) (by lia) (by lia)) ?_)
  have hk : ∀ (o1 o2 : Obj) b o, h'.get? b = some o -> ((h'.push o1).push o2).get? b = some o := fun o1 o2 b o e => aJ _ _ _ (aJ _ _ _ e)
  have hl : (fB i).length = i.toNat := by unfold fB; rw [List.length_map, List.length_range]
  refine (q.aY (tk := tk) X) _ _ _ _ _ aR _ C.mZ φ (.keep (hk _ _) (Nat.le_trans a8 a8)) (fun z => absurd (S.hU z) (Nat.not_lt.mpr a8)) a8 (S.gN (hk _ _)) (.pH (fun _ _ => zh) ?_) trivial (by rw [hl]; lia) fun _ l5 hu => ⟨_, hu, l5⟩
  rw [hl, show ((i.toNat : Int) - ((0 : Nat) : Int)) = Builtin.Range.rangeSize 0 i 1 by rw [rangeSize_one]; split <;> lia]
  exact cC rfl
 | _ => exact φ.elim
end
end
section
theorem jR {x : V} {r : List V} {ns : List Int} (e : fW (x :: r) = some ns) : ∃ i ms, x = .int i /\ fW r = some ms /\ ns = i :: ms := by
 cases x with
 | int i => obtain ⟨ms, h1, rfl⟩ := Option.map_eq_some_iff.mp (show (fW r).map (i :: ·) = some ns from e); exact ⟨i, ms, rfl, h1, rfl⟩
 | _ => cases e
theorem uj {l : List V} : ∀ {ns : List Int}, fW l = some ns -> ns.length = l.length := by
 induction l with
 | nil => intro ns e; cases e; rfl
 | cons x r ih => intro ns e; obtain ⟨i, ms, rfl, h1, rfl⟩ := jR e; exact congrArg (· + 1) (ih h1)
theorem eQ.HD {T : Nm} {μ : fm} {h : Heap} {l : List V} {vs : List Value} (r : eQ T μ h l vs) : ∀ {ns : List Int}, fW l = some ns -> IntsAre vs ns := by
 induction r with
 | nil => intro ns e; cases e; exact .nil
 | cons a _ ih => intro ns e; obtain ⟨i, ms, rfl, h1, rfl⟩ := jR e; cases a; exact .cons _ _ (ih h1)
theorem B6 {T : Nm} {μ : fm} {h : Heap} {vs : List Value} {ns : List Int} (r : IntsAre vs ns) : eQ T μ h (ns.map V.int) vs := by
 induction r with
 | nil => exact .nil
 | cons n t _ ih => exact .cons (.int n t) ih
theorem zd {ns Nq : List Int} (hp : Nq.Perm ns) (hs : Nq.Pairwise (· <= ·)) : Nq = ns.mergeSort (· <= ·) := by
 have h2 : (ns.mergeSort (fun a b => decide (a <= b))).Pairwise (fun a b => decide (a <= b) = true) := List.pairwise_mergeSort (le := fun a b : Int => decide (a <= b)) (fun a b c h1 h2 => decide_eq_true (Int.le_trans (of_decide_eq_true h1) (of_decide_eq_true h2)))
  (fun a b => Bool.or_eq_true_iff.mpr ((Int.le_total a b).imp decide_eq_true decide_eq_true)) ns
 exact List.Perm.eq_of_pairwise (le := fun a b => a <= b) (fun a b _ _ h1 h2 => Int.le_antisymm h1 h2) hs (h2.imp fun h => of_decide_eq_true h) (hp.trans (List.mergeSort_perm _ _).symm)
theorem tx {x : V} {r : List V} {bs : List Bool} (e : dq (x :: r) = some bs) : ∃ b cs, nP x = some b /\ dq r = some cs /\ bs = b :: cs := by
 obtain ⟨b, h1, h2⟩ := Option.bind_eq_some_iff.mp (show ((nP x).bind fun b => (dq r).map (b :: ·)) = some bs from e)
 obtain ⟨cs, h3, rfl⟩ := Option.map_eq_some_iff.mp h2
 exact ⟨b, cs, h1, h3, rfl⟩
theorem tA {x : V} {b : Bool} (e : nP x = some b) {σ : ag} : s6 x σ (· = b) := by
 cases x <;> first | exact Option.some.inj e | cases e
noncomputable def hY : BF -> Str
 | .len => "len" | .sorted => "sorted" | .tuple => "tuple" | .all => "all" | .any => "any" | .dict => "dict"
noncomputable def yO : BF -> Value
 | .len => .builtin "len" | .sorted => .builtin "sorted" | .tuple => .type "tuple" | .all => .builtin "all" | .any => .builtin "any" | .dict => .type "dict"
section
variable {d : Nat} {c : Cl} {pos : Pos} {l : List V} {n : Nat} {a : Addr}
theorem qq {v : Value} {ns : List Int} (S : SI C μ σ s.heap) (Fn : ns.length < 64)
  (hc : ∀ {R : List Value -> Shared -> Prop}, (∀ h' tk vs, (∀ b o, s.heap.get? b = some o -> h'.get? b = some o) -> IntsAre vs ns -> R vs { s with heap := h', toks := tk }) -> wpAny (model C.prog C.w) A.in1 (collect v) R EE s)
  (q : Ap C μ s (.ref σ.length) (σ ++ [.list ((ns.mergeSort (· <= ·)).map .int)]) Q) : wpAny (model C.prog C.w) A (PySem.call (.builtin "sorted") [v]) Q EE s := by
 refine Calls.call_function_entry kind_sorted plain_sorted entry_sorted (args_sorted1 _) ?_
 unfold Builtin.«sorted»
 refine wpAny_bind (m := checkCount "sorted" 1 1 _) (wpAny_pure (wpAny_bind (cx (hc fun h' tk vs hk hi jm => ?_))))
 have hl : vs.length < 64 := by rw [hi.length]; exact Fn
 refine wpAny_bind (wpAny_newList ?_ (by rw [sizeLine_eq]; lia))
 have Pn : (h'.push (seqObj "list" vs.toArray 0)).get? h'.objs.size = some (seqObj "list" vs.toArray 0) := cC rfl
 refine wpAny_bind (wpAny_holding (wpAny_call_entry slot_list_sort (s := { s with heap := h'.push (seqObj "list" vs.toArray 0), toks := tk }) ⟨_, Pn, rfl⟩ entry_list_sort
  (list_sort_tree (s := { s with heap := h'.push (seqObj "list" vs.toArray 0), toks := tk }) Pn hi hl fun out Nq a1 a2 a3 => ⟨_, rfl, ?_⟩) (args_list_sort _)))
 refine wpAny_pure ⟨_, rfl, ?_⟩
 obtain ⟨e, he⟩ := sortedHeap_at (vs := vs) (out := out) Pn
 have Fg : IntsAre out.toList (ns.mergeSort (· <= ·)) := by rw [<- zd a2 a3]; exact a1
 exact nF (s := s) (o := .list ((ns.mergeSort (· <= ·)).map .int)) S (fun b o hb => by
  have h1 := hk b o hb
  have lt := Heap.lt_size h1
  rw [sortedHeap_old (Nat.ne_of_lt lt) (by rw [size_push']; exact Nat.lt_succ_of_lt lt)]
  exact aJ _ _ _ h1) (Nat.le_trans jm (Nat.le_of_lt (Heap.lt_size he))) jm (fun g => ⟨out, e, he, B6 Fg, by rw [List.length_map, List.length_mergeSort]; exact Nat.le_trans (Nat.le_of_lt Fn) (by decide), rfl⟩) q
theorem nO (u : Bool) {R : Result -> Shared -> Prop} (hA : A.handled = none) (hn : σ[n]? = some (.list l)) (hI : I ∉ foot μ) (hb : C.bN.objs.size <= I) : ∀ (xs : List V) {i : Nat} {s : Shared} {bs : List Bool}, l.drop i = xs -> dq xs = some bs -> SI C μ σ s.heap ->
  fR C μ s.heap I l i (.seq (.ref n)) -> (∀ h' tk, Xt [I] μ μ s.heap h' -> SI C μ σ h' -> R (.ok (.ret (.bool (cond u (bs.any id) (bs.all id))))) { s with heap := h', toks := tk }) -> codeAny (model C.prog C.w) A (.builtin (cond u "any.loop" "all.loop") ⟨[.ref I], []⟩) R s := by
 intro xs
 induction xs with
 | nil =>
  intro i s bs hd ht S it q
  cases ht
  have e : l[i]? = none := List.getElem?_eq_none_iff.mpr (List.drop_eq_nil_iff.mp hd)
  have a6 : ∀ h', Heap.ExtBut I s.heap h' -> s.heap.objs.size <= h'.objs.size -> R (.ok (.ret (.bool (cond u false true)))) { s with heap := h' } := fun h' he hz => q h' s.toks (.ext he it.gJ hz) (S.ext he hI hb it.gJ)
  cases u with
  | true =>
   refine codeAny_builtin PySem.F.entry_any_loop ?_
   show wpAny _ (A.under (.builtin "any.loop" _)) _ _ _ _
   rw [Around.under_plainId PySem.F.plain_any_loop _]
   exact wpAny_bind (jd (A := A.in1) hA S it hn (fun _ h' he hz => wpAny_bind (wpAny_rule (wpAny_pure (a6 h' he hz)))) fun y hy => nomatch e.symm.trans hy)
  | false =>
   refine codeAny_builtin PySem.F.entry_all_loop ?_
   show wpAny _ (A.under (.builtin "all.loop" _)) _ _ _ _
   rw [Around.under_plainId PySem.F.plain_all_loop _]
   exact wpAny_bind (jd (A := A.in1) hA S it hn (fun _ h' he hz => wpAny_bind (wpAny_rule (wpAny_pure (a6 h' he hz)))) fun y hy => nomatch e.symm.trans hy)
 | cons x xs ih =>
  intro i s bs hd ht S it q
  obtain ⟨b, cs, h1, h2, rfl⟩ := tx ht
  have e : l[i]? = some x := by rw [<- List.head?_drop, hd]; rfl
  have sE : l.drop (i + 1) = xs := by rw [<- List.drop_drop, hd]; rfl
  have step : ∀ {h'}, Heap.SameBut I s.heap h' -> SI C μ σ h' /\ Xt [I] μ μ s.heap h' := fun hs => ⟨S.nc hs hI hb it.gJ, .nc hs (.head _) it.gJ⟩
  cases u with
  | true =>
   refine codeAny_builtin PySem.F.entry_any_loop ?_
   show wpAny _ (A.under (.builtin "any.loop" _)) _ _ _ _
   rw [Around.under_plainId PySem.F.plain_any_loop _]
   refine wpAny_bind (jd (A := A.in1) hA S it hn (fun z => nomatch z.symm.trans e) fun y hy h' tk v rv O5 hs => ?_)
   cases Option.some.inj (e.symm.trans hy)
   obtain ⟨S', X'⟩ := step hs
   refine wpAny_bind (wpAny_holding (fo (s := { s with heap := h', toks := tk }) S' (rv.aC X'.aC) (tA h1) fun b' vG eb _ => wpAny_bind (wpAny_letGo ?_)))
   subst eb
   cases b' with
   | false => exact wpAny_pure ⟨plainId_quiet PySem.F.plain_any_loop _, ih sE h2 S' O5 fun eH tB X l5 => q eH tB (X'.Hx X) l5⟩
   | true => exact wpAny_bind (wpAny_rule (wpAny_pure (q h' _ X' S')))
  | false =>
   refine codeAny_builtin PySem.F.entry_all_loop ?_
   show wpAny _ (A.under (.builtin "all.loop" _)) _ _ _ _
   rw [Around.under_plainId PySem.F.plain_all_loop _]
   refine wpAny_bind (jd (A := A.in1) hA S it hn (fun z => nomatch z.symm.trans e) fun y hy h' tk v rv O5 hs => ?_)
   cases Option.some.inj (e.symm.trans hy)
   obtain ⟨S', X'⟩ := step hs
   refine wpAny_bind (wpAny_holding (fo (s := { s with heap := h', toks := tk }) S' (rv.aC X'.aC) (tA h1) fun b' vG eb _ => wpAny_bind (wpAny_letGo ?_)))
   subst eb
   cases b' with
   | true => exact wpAny_pure ⟨plainId_quiet PySem.F.plain_all_loop _, ih sE h2 S' O5 fun eH tB X l5 => q eH tB (X'.Hx X) l5⟩
   | false => exact wpAny_bind (wpAny_rule (wpAny_pure (q h' _ X' S')))
theorem mf (S : SI C μ σ s.heap) (hm : μ[n]? = some (a, none)) : SI C μ σ (s.heap.push (BS a)) /\ s.heap.objs.size ∉ foot μ /\ C.bN.objs.size <= s.heap.objs.size /\ fR C μ (s.heap.push (BS a)) s.heap.objs.size l 0 (.seq (.ref n)) /\
  ∀ {h'}, Xt [s.heap.objs.size] μ μ (s.heap.push (BS a)) h' -> Xt [] μ μ s.heap h' :=
 ⟨S.gN (aJ _), S.kC (Nat.le_refl _), S.dT, .yk hm ⟨_, cC rfl, rfl, rfl⟩, fun X => (Xt.keep (X := []) (aJ _) a8).fresh X (Nat.le_refl _)⟩
theorem qg.FK {μ : fm} {h : Heap} {kvs : List (V × V)} {lv : List (V × Value)} (en : qg C.T μ h kvs lv) {ns : List Int} (e : fW (kvs.map (·.1)) = some ns) : (lv.map (·.1)) = ns.map V.int := by
 rw [en.bC]
 generalize kvs.map (·.1) = l at e
 clear en
 induction l generalizing ns with
 | nil => cases e; rfl
 | cons x r ih => obtain ⟨i, ms, rfl, h1, rfl⟩ := jR e; exact congrArg _ (ih h1)
theorem wN : ∀ {vs : List Value} {ns : List Int}, vs.length = ns.length -> (∀ (j : Nat) (v : Value), vs[j]? = some v -> ∃ (n : Int) (t : Tok), v = Value.int n t /\ ns[j]? = some n) -> IntsAre vs ns := fun {vs} => by
 induction vs with
 | nil => intro ns h _; rw [List.length_eq_zero_iff.mp h.symm]; exact .nil
 | cons v vs ih =>
  intro ns h p
  cases ns with
  | nil => cases h
  | cons n ns =>
   obtain ⟨m, t, rfl, e⟩ := p 0 v rfl
   cases Option.some.inj e
   exact .cons _ _ (ih (Nat.succ.inj h) fun j v hj => p (j + 1) v hj)
theorem MF {b : BF} {v : V} {v' : Value} {Φ : PQ} (R0 : qf d A) (S : SI C μ σ s.heap) (rv : VR C.T μ s.heap v v') (φ : RU b Φ v σ) (q : jo C μ s Φ Q) : wpAny (model C.prog C.w) A (PySem.call (yO b) [v']) Q EE s := by
 cases rv with
 | ae ho rs hl =>
  cases b with
  | len => exact PyProof.Rows.len_tuple ⟨_, ho, rfl, _, rfl⟩ (lR rs.size hl) (by rw [rs.size]; exact dm q S φ)
  | _ => exact φ.elim
 | ref hm =>
  cases (show QM _ _ from φ) with
  | mk f φ =>
  cases f with
  | Lo hn =>
   obtain ⟨ck, k, ho, rs, hl, _⟩ := S.list hn hm
   exact call_len_list (gq ho) (lR rs.size hl) (by rw [rs.size]; exact dm q S φ)
  | Lp hn hk =>
   obtain ⟨D, hl, _⟩ := S.dict hn hm
   cases D with
   | ae => exact absurd rfl hk
   | val hd en => exact call_len_dict (S.vH hm) hd (lR en.length hl) (by rw [en.length]; exact dm q S φ)
  | Gp hn Fn e =>
   obtain ⟨ck, k, ho, rs, hl, _⟩ := S.list hn hm
   exact qq S (uj e ▸ Fn) (fun hR => collect_list (vs := ck.toList) ⟨_, ho, rfl, k, rfl⟩ (hR _ s.toks _ (fun b o hb => (Heap.get?_update_other _ _ (Nat.ne_of_gt (Heap.lt_size hb))).trans (aJ _ _ _ hb)) (rs.HD e)) (iw rs.length hl)) (q _ _ φ)
  | Gq hn Fn e =>
   obtain ⟨D, hl, _⟩ := S.dict hn hm
   generalize hk : KK.int = z at D
   cases D with
   | ae => cases hk
   | @val b lv hd en =>
   cases b with
   | true => cases hk
   | false =>
   obtain ⟨ep, Fh⟩ := hd.dictAt
   have hz : lv.length < 64 := by rw [en.length]; exact Fn
   have JX := uj e
   rw [List.length_map] at JX
   refine qq S (JX ▸ Fn) (fun {R} hR => kdu_collect (kdl_dict (knd := dz C.prog C.w C.T false) (kvs := lv) (ep := ep) (S.vH hm)) (show A.in1.handled = none from R0.hh) Fh (iw en.length hl) fun h' tk acc hk Mn => hR h' tk _ hk ?_) (q _ _ φ)
   refine wN (by rw [Array.length_toList, Mn.1, en.length, JX]) fun j v hj => ?_
   obtain ⟨k, x, hx, Uk⟩ := Mn.2 j v (by rw [<- Array.getElem?_toList]; exact hj)
   have ek := en.FK e
   have h1 : (lv.map (·.1))[j]? = some k := by rw [List.getElem?_map, hx]; rfl
   rw [ek, List.getElem?_map] at h1
   obtain ⟨m, iN, rfl⟩ := Option.map_eq_some_iff.mp h1
   cases fI Uk
   exact ⟨m, _, rfl, iN⟩
  | tuple hn =>
   obtain ⟨ck, k, ho, rs, hl, _⟩ := S.list hn hm
   refine cx (call_tuple_list (gq ho) (fun h' hk hz => ?_) (iw rs.size hl))
   have JZ : ∀ b o, s.heap.get? b = some o -> (h'.push { cls := .type "tuple", data := .seq ck }).get? b = some o := fun b o e => aJ _ _ _ (hk b o e)
   exact q _ _ φ _ s.toks μ _ (.keep JZ hz) (S.gN JZ) (.ae (cC rfl) (rs.aC (.keep JZ)) hl)
  | all hn e =>
   obtain ⟨ck, k, ho, rs, hl, rfl⟩ := S.list hn hm
   obtain ⟨S', z1, z2, it, un⟩ := mf S hm
   refine call_function_tree PySem.F.kind_all PySem.F.plain_all PySem.F.entry_all (PySem.F.args_all1 _) ?_
   unfold Builtin.«all»
   refine wpAny_bind (m := oneArg "all" _) (wpAny_pure (wpAny_bind (wpAny_pyIter_list (gq ho) (wpAny_pure ⟨plainId_quiet PySem.F.plain_all_loop _, ?_⟩))))
   exact nO false (A := A) R0.hh hn z1 z2 _ List.drop_zero e S' it fun h' tk X S' => q _ _ φ h' tk μ _ (un X) S' (.bool _)
  | any hn e =>
   obtain ⟨ck, k, ho, rs, hl, rfl⟩ := S.list hn hm
   obtain ⟨S', z1, z2, it, un⟩ := mf S hm
   refine call_function_tree PySem.F.kind_any PySem.F.plain_any PySem.F.entry_any (PySem.F.args_any1 _) ?_
   unfold Builtin.«any»
   refine wpAny_bind (m := oneArg "any" _) (wpAny_pure (wpAny_bind (wpAny_pyIter_list (gq ho) (wpAny_pure ⟨plainId_quiet PySem.F.plain_any_loop _, ?_⟩))))
   exact nO true (A := A) R0.hh hn z1 z2 _ List.drop_zero e S' it fun h' tk X S' => q _ _ φ h' tk μ _ (un X) S' (.bool _)
  | dict hn =>
   obtain ⟨D, hl, _⟩ := S.dict hn hm
   obtain ⟨lv, hd, en⟩ := D.strs
   refine cx (kt_call_dict (S.vH hm) hd (iw en.length hl) fun h' sE hs jm => ?_)
   exact nF (o := .dict .str _) (tk := s.toks) S (fun b o e => (hs.2 b (Nat.ne_of_lt (Heap.lt_size e))).trans (aJ _ _ _ e)) jm (Nat.le_refl _) (fun g => ⟨.val (b := true) sE (en.aC g), hl, rfl⟩) (q _ _ φ)
 | _ => cases b <;> exact φ.elim
theorem C8 (b : BF) : (hY b == ("__debug__" : Str)) = false := by cases b <;> decide +kernel
theorem FG (b : BF) : hY b ≠ ("__name__" : Str) := by cases b <;> decide +kernel
theorem FI (b : BF) : bootBuiltins (hY b) = some (yO b) := by
 cases b
 ·exact PyProof.Rows.Boot.«len»
 ·exact PyProof.Rows.Boot.«sorted»
 ·exact PyProof.Rows.Boot.«tuple»
 ·exact PyProof.Rows.Boot.«all»
 ·exact PyProof.Rows.Boot.«any»
 ·exact PyProof.Rows.Boot.«dict»
theorem FH {b : BF} {t : Sem Value} {M : Model} (h : wpAny M A t (fun v fz => wpAny M A (PySem.call (yO b) [v]) Q EE fz) EE s) : wpAny M A (callWith pos (yO b) [] [(false, t)] []) Q EE s := by
 cases b with
 | tuple => exact PySem.callWith_type1 h
 | dict => exact PySem.callWith_type1 h
 | _ => exact PySem.callWith_builtin1 h
theorem KZ {x : Str} {p : Pos} {e : Expr} {ex : E} {b : BF} (hx : x = hY b) (hg : C.mg x = none) (hn : Λ.names.lookup x = some .globalImplicit) (h : b8 C d c Λ e ex) (hp : bU e = true) : b8 C d c Λ (.Call (.Name x p) [e] [] pos) (.fn b ex) := fun G w q => by
 subst hx
 refine Call_Name (trees := [(false, eval e _)]) (by rw [bh hp]; rfl) (Calls.Name_function_global G.W.kind ((G.W.kn _).trans hn) (Calls.loadGlobal_builtin (G.W.aq ▸ C.hg.keeps G.S.keep) hg (G.W.blt ▸ C.hb.keeps G.S.keep) ((C.NC _ (FG b)).trans (FI b)) ?_) (C8 b))
 exact FH (h G w fun _ _ φ _ _ _ _ X S rv => MF G.R S rv φ (q.aY X))
end
end
variable {f : Expr} {fx : E}
section
structure Dx (C : Cx) (x : Str) (kvs : List (Int × V)) (a : Addr) (l : List (V × Value)) : Prop where
 mg : C.mg x = some (.ref a)
 d : C.bN.DictOf (dz C.prog C.w C.T false) a l
 en : qg C.T [] C.bN (kvs.map fun p => (V.int p.1, p.2)) l
 vH : (a == sysModules) = false
noncomputable abbrev GD (C : Cx) (x : Str) (kvs : List (Int × V)) : Prop := ∃ a l, Dx C x kvs a l
theorem CR (i : Int) (kvs : List (Int × V)) : bJ (kvs.map fun p => (V.int p.1, p.2)) (.int i) = kvs.lookup i := by
 induction kvs with
 | nil => rfl
 | cons p r ih =>
  rw [List.map_cons, List.lookup_cons]
  unfold bJ at ih ⊢
  rw [List.find?_cons]
  by_cases h : i = p.1
  ·rw [show (decide (V.int p.1 = V.int i)) = true from decide_eq_true (congrArg _ h.symm), beq_iff_eq.mpr h]; rfl
  ·rw [show (decide (V.int p.1 = V.int i)) = false from decide_eq_false fun e => h (V.int.inj e).symm, beq_eq_false_iff_ne.mpr h]; exact ih
section
variable {d : Nat} {c : Cl} {env : PySem.Env} {pos : Pos} {x : Str} {kvs : List (Int × V)} {a : Addr} {l : List (V × Value)} {e : Expr} {ex : E} {k : Nat} {i : Int}
theorem Dx.at {h : Heap} (G : Dx C x kvs a l) (S : SI C μ σ h) (i : Int) : (kvs.lookup i = none /\ valueAt l (.int i) = none) \/ ∃ y v, kvs.lookup i = some y /\ valueAt l (.int i) = some v /\ VR C.T μ h y v := by
 unfold valueAt
 rcases G.en.get (.int i) with ⟨e1, e2⟩ | ⟨y, q, e1, e2, r⟩ <;> rw [CR] at e1
 ·exact .inl ⟨e1, by rw [e2]; rfl⟩
 ·exact .inr ⟨y, q.2, e1, by rw [e2]; rfl, VR.up S r⟩
theorem rX {t : Tok} : (dz C.prog C.w C.T false).is (.int i) (.int i t) = true := (KS.int i t).ok
theorem Il {p : Pos} (G : GD C x kvs) (h : b8 C d c Λ e ex) (hx : Λ.names.lookup x = some .globalImplicit) (hd : (x == ("__debug__" : Str)) = false) : b8 C d c Λ (.Compare e [.In] [.Name x p] pos) (.NP k kvs ex) := fun W w q =>
 wpAny_Compare1 (h W w fun v ab φ _ _ _ v' X S rv => by
  obtain ⟨a, l, G⟩ := G
  cases rv with
  | int i t =>
   refine fq (W.on X S) G.mg hx hd (wpAny_in_of rX G.vH (G.d.keep S.keep).mapOf ?_)
   have ev : (valueAt l (.int i)).isSome = (kvs.lookup i).isSome := by rcases G.at S i with ⟨h1, h2⟩ | ⟨_, _, h1, h2, _⟩ <;> rw [h1, h2] <;> rfl
   rw [ev]
   exact kt (q.aY X) S φ
  | _ => exact φ.elim) rfl
theorem Ex {p sX : Pos} {g : Str} (G : GD C x kvs) (he : b8 C d c Λ e ex) (hf : b8 C d c Λ f fx) (RE : bU e = true) (RD : bU f = true) (Uq : g = "get") (hx : Λ.names.lookup x = some .globalImplicit) (hd : (x == ("__debug__" : Str)) = false) (uI : (sX.endLine == pos.line) = true) :
  b8 C d c Λ (.Call (.Attribute (.Name x p) g sX) [e, f] [] pos) (.Jn k kvs ex fx) := by
 intro A env μ σ ρ s Q EE Φ W w q
 subst Uq
 obtain ⟨a, l, G⟩ := G
 obtain ⟨o, _, _, ho, hc, _⟩ := G.d.keep W.S.keep
 rw [arm_eval_Call, show attributeBase (.Name x p) "get" env _ = _ from rfl]
 refine wpAny_bind (fq W G.mg hx hd (wpAny_bind (wpAny_standAt (gL (Bool.and_eq_true_iff.mpr ⟨RE, Bool.and_eq_true_iff.mpr ⟨RD, rfl⟩⟩) (show 2 < 20 by decide) uI fun pl => getMethod_builtin ⟨o, ho, hc.1⟩ PySem.F.plainAttrs_dict PySem.F.slot_dict_get PySem.F.type_dict_get (rR ho hc.2.1) ?_))))
 rw [bh RE, bh RD]
 refine wpAny_dict_get2 (knd := dz C.prog C.w C.T false) G.vH (he W w fun v ab φ h' tk aR v' X S rv => hf (W.on X S) φ fun y ah cb eH mh gB y' bK ax ry => ?_)
 cases rv with
 | int i t =>
  refine ⟨.int i, _, rX, (G.d.keep ax.keep).mapOf, ?_⟩
  have cb : Φ ((kvs.lookup i).getD y) ah := cb
  rcases G.at ax i with ⟨e1, e2⟩ | ⟨_, _, e1, e2, rr⟩ <;> rw [e1] at cb <;> rw [e2]
  ·exact (((q.aY X).aY bK) _ _ cb).same ax ry
  ·exact (((q.aY X).aY bK) _ _ cb).same ax rr
 | _ => exact cb.elim
theorem wa (a b : Nat) (h : a <= b) : Builtin.Slice.slicePlaces (a : Int) (b : Int) 1 = b - a := by
 unfold Builtin.Slice.slicePlaces
 have h1 : (1 : Int) > 0 := by lia
 simp only [h1, if_true, Int.ediv_one]
 split <;> lia
theorem xE (a b n : Nat) (h : a <= b) (hb : b <= n) : Builtin.Slice.sliceAdjust (some (a : Int)) (some (b : Int)) 1 (n : Int) = ((a : Int), (b : Int)) := by
 unfold Builtin.Slice.sliceAdjust
 have h1 : ¬ ((1 : Int) < 0) := by lia
 have h2 : ¬ ((a : Int) < 0) := by lia
 have h3 : ¬ ((b : Int) < 0) := by lia
 simp only [h1, h2, h3, if_false]
 congr 1
 ·lia
 ·lia
theorem uN {t sl : Addr} {bx : Array Value} {a b : Nat} {u u' : Tok} {Q : Value -> Shared -> Prop} (ht : IsTup s.heap t bx) (hs : s.heap.IsSliceOf sl (.int a u) (.int b u') .none) (h1 : 1 <= a) (Jh : a <= b) (hb : b <= bx.size)
  (h : Q (.ref s.heap.objs.size) { s with heap := s.heap.push { cls := .type "tuple", data := .seq ((bx.toList.drop a).take (b - a)).toArray } }) (jm : bx.size <= sizeLine) : wpAny (model C.prog C.w) A (PySem.getItem (.ref t) (.ref sl)) Q EE s := by
 have hd : sizeOk (.seq ((bx.toList.drop a).take (b - a)).toArray) := by
  show ((bx.toList.drop a).take (b - a)).toArray.size <= sizeLine
  rw [List.size_toArray, List.length_take, List.length_drop, Array.length_toList]
  lia
 obtain ⟨os, Fa, Mf, Jc⟩ := id hs
 have NI : s.TypeIs (.ref sl) "slice" := ⟨os, Fa, Mf⟩
 unfold PySem.getItem
 refine wpAny_holding (wpAny_bind (wpAny_sequenceKey ht.typeIs (by decide) ?_))
 refine wpAny_bind (wpAny_callSpecial?_slot (name := Str.ofString "__getitem__") ht.typeIs slot_tuple_getitem (wpAny_call_entry slot_tuple_getitem ht.typeIs entry_tuple_getitem ?_ (args_tuple_getitem _ _)))
 show wpAny _ _ (Builtin.Tuple.tupleItemsOf (.ref t) >>= _) _ _ s
 refine wpAny_bind (tupleItemsOf_ ht ?_)
 refine wpAny_bind (wpAny_typeOf NI ?_)
 rw [if_pos (by decide)]
 have Hd : ∀ {Q' : Int × Int × Nat -> Shared -> Prop} {A' E'}, Q' ((a : Int), 1, b - a) s -> wpAny (model C.prog C.w) A' (Builtin.Slice.sliceApplied (.ref sl) (pure (bx.size : Int))) Q' E' s := fun {Q' A' E'} hq => by
  unfold Builtin.Slice.sliceApplied Builtin.Slice.sliceFields
  refine wpAny_bind (wpAny_bind (wpAny_field Fa Jc (x := .int a u) rfl (wpAny_bind (wpAny_field Fa Jc (x := .int b u') rfl (wpAny_bind (wpAny_field Fa Jc (x := .none) rfl (wpAny_pure ?_)))))))
  refine wpAny_bind (slicePart_none ?_)
  show wpAny _ _ (if ((1 : Int) == 0) = true then _ else _) _ _ s
  rw [if_neg (by decide)]
  refine wpAny_bind (slicePart_int (wpAny_bind (slicePart_int (wpAny_bind (wpAny_pure ?_)))))
  show wpAny _ _ (match Builtin.Slice.sliceAdjust (some (a : Int)) (some (b : Int)) 1 (bx.size : Int) with | (lo, hi) => pure (lo, (1 : Int), Builtin.Slice.slicePlaces lo hi 1)) _ _ s
  rw [xE a b _ Jh hb]
  show wpAny _ _ (pure ((a : Int), (1 : Int), Builtin.Slice.slicePlaces (a : Int) (b : Int) 1)) _ _ s
  rw [wa a b Jh]
  exact wpAny_pure hq
 refine wpAny_bind (Hd ?_)
 have LU : ¬ (((a : Int) == 0 && (1 : Int) == 1 && (b - a) == bx.size) = true) := by
  have : ((a : Int) == 0) = false := by rw [beq_eq_false_iff_ne]; lia
  rw [this]; simp
 show wpAny _ _ (if ((a : Int) == 0 && (1 : Int) == 1 && (b - a) == bx.size) = true then _ else _) _ _ s
 have ep : ((List.range (b - a)).filterMap fun (k : Nat) => bx[((a : Int) + (k : Int) * 1).toNat]?).toArray = ((bx.toList.drop a).take (b - a)).toArray := by
  have e : (fun (k : Nat) => bx[((a : Int) + (k : Int) * 1).toNat]?) = fun k => bx[a + k]? := by
   funext k
   have : ((a : Int) + (k : Int) * 1).toNat = a + k := by lia
   rw [this]
  rw [e]
  have := pick_run bx a (b - a)
  rw [List.filterMap_map] at this
  rw [<- this]; rfl
 rw [if_neg LU, ep]
 first
  | exact wpAny_bind (m := Builtin.Tuple.tupleExact _) (wpAny_newObj_type (wpAny_pure ⟨_, rfl, wpAny_pure h⟩) hd)
  | exact wpAny_bind (wpAny_bind (m := Builtin.Tuple.tupleExact _) (wpAny_newObj_type (wpAny_pure ⟨_, rfl, wpAny_pure h⟩) hd))
  | exact wpAny_bind (wpAny_bind (m := Builtin.Tuple.tupleExact _) (wpAny_newObj_type (wpAny_pure (wpAny_pure ⟨_, rfl, wpAny_pure h⟩)) hd))
theorem Im {lo hi : Nat} {k1 k2 p1 p2 p} (h : b8 C d c Λ e ex) : b8 C d c Λ (.Subscript e (.Slice (some (.Constant (.int lo) k1 p1)) (some (.Constant (.int hi) k2 p2)) none p) pos) (.Ql ex lo hi) := fun {_ _ _ _ _ s _ _ _} W w q =>
 Subscript_ (h W w fun v ab φ h' tk aR v' X S rv => wpAny_Slice (by
  rw [evalPart_some, evalPart_some, evalPart_none]
  refine wpAny_Constant_int (wpAny_Constant_int (wpAny_pure ?_))
  cases rv with
  | @ae l ta vs n ho rs hl =>
   obtain ⟨⟨h1, h2, h3⟩, φ⟩ := fE (show dd (if 1 <= lo /\ lo <= hi /\ hi <= l.length then some (V.ae ((l.drop lo).take (hi - lo))) else none) _ from φ)
   have kp := aJ (h := h') (eR (.int lo tk) (.int hi (tk + 1)))
   have Y : Xt [] aR aR h' (h'.push (eR (.int lo tk) (.int hi (tk + 1)))) := .keep kp a8
   have hT : IsTup (h'.push (eR (.int lo tk) (.int hi (tk + 1)))) ta vs := ⟨_, kp _ _ ho, rfl, n, rfl⟩
   exact tail_any (ops := [.ref h'.objs.size, .ref ta]) (IsTup.typeIs (s := { s with heap := h'.push (eR (.int lo tk) (.int hi (tk + 1))), toks := tk + 1 + 1 }) hT) slot_tuple_getitem.lookup
    (uN (a := lo) (b := hi) hT (Heap.IsSliceOf.new ..) h1 h2 (rs.size ▸ h3)
     (rt (S.gN kp) (((eQ.aC Y.aC rs).drop lo).take (hi - lo)) (Nat.le_trans (List.length_take_le' _ _) (Nat.le_trans (by rw [List.length_drop]; exact Nat.sub_le _ _) hl)) (((q.aY (tk := tk) X) _ _ φ).aY (tk := tk + 1 + 1) Y)) (iw rs.size hl)) rfl
  | _ => exact φ.elim))
theorem zR {h : Heap} {a : Addr} (ho : h.get? a = some { cls := .type "dict", data := .dict #[] }) : h.DictOf (dz C.prog C.w C.T true) a [] := ⟨_, #[], 0, ho, ⟨rfl, rfl, rfl⟩, rfl, (fun e he => absurd he (Array.not_mem_empty e)), .nil, List.nodup_nil⟩
theorem BB {y : Nat} {t u : Str} {k1 k2 p1 p2} {x : Nat} {v1 v2 : V} (hx : x < C.T.len) (ht : C.T.nm x = t) (hy : y < C.T.len) (hu : C.T.nm y = u) (eU : x ≠ y) (he : b8 C d c Λ e (.lit v1)) (hf : b8 C d c Λ f (.lit v2)) :
  b8 C d c Λ (.Dict [some (.Constant (.str t) k1 p1), some (.Constant (.str u) k2 p2)] [e, f] pos) (.dict .str [(.str x, v1), (.str y, v2)]) := by
 intro A env μ σ ρ s Q EE Φ G φ q
 subst ht hu
 have hk := aJ (h := s.heap) { cls := .type "dict", data := .dict #[] }
 have S0 := G.S.add (p := (s.heap.objs.size, none)) (o := .dict .str []) (h' := s.heap.push { cls := .type "dict", data := .dict #[] }) hk (fun a ha => ha.elim (fun e => e ▸ ⟨G.S.kC (Nat.le_refl _), G.S.dT⟩) (fun e => nomatch e)) (fun e => nomatch e) fun g => ⟨.val (b := true) (zR (cC rfl)) .nil, Nat.zero_le _, rfl⟩
 have X0 : Xt [] μ (μ ++ [(s.heap.objs.size, none)]) s.heap (s.heap.push { cls := .type "dict", data := .dict #[] }) := Xt.refl.add (.add hk) hk a8 (fun a ha => ha.elim (fun e => e ▸ Nat.le_refl _) (fun e => nomatch e))
 have G0 : vM C d Λ A env _ (σ ++ [.dict .str []]) ρ { s with heap := s.heap.push { cls := .type "dict", data := .dict #[] } } := G.on (tk := s.toks) X0 S0
 have hm : (μ ++ [(s.heap.objs.size, none)])[σ.length]? = some (s.heap.objs.size, (none : Option Addr)) := G.S.len ▸ gT
 refine wpAny_Dict_pairs (knd := dz C.prog C.w C.T true) (pairs := [(eval (.Constant (.str (C.T.nm x)) k1 p1) env, eval e env >>= fun z => standAt pos >>= fun _ => pure z), (eval (.Constant (.str (C.T.nm y)) k2 p2) env, eval f env >>= fun z => standAt pos >>= fun _ => pure z)]) rfl (List.cons_ne_nil _ _) (show 2 <= 15 by decide) ?_
 refine evalPairs_cons (wpAny_Constant_str (wpAny_bind (he (s := { s with heap := s.heap.push { cls := .type "dict", data := .dict #[] }, toks := s.toks + 1 }) (Φ := fun v σ' => v = v1 /\ σ' = σ ++ [.dict .str []]) ⟨G0.R, G0.S, G0.W⟩ ⟨rfl, rfl⟩ ?_)))
 rintro v _ ⟨rfl, rfl⟩ h1 t1 aR v' qe aU rv
 refine wpAny_bind (wpAny_standAt (wpAny_pure (evalPairs_cons (wpAny_Constant_str (wpAny_bind (hf (s := { s with heap := h1, toks := t1 + 1 }) (Φ := fun v σ' => v = v2 /\ σ' = σ ++ [.dict .str []]) ⟨G0.R, aU, G0.W.qi qe⟩ ⟨rfl, rfl⟩ ?_))))))
 rintro v2 _ ⟨rfl, rfl⟩ h2 t2 gB u' bK ax ru
 refine wpAny_bind (wpAny_standAt (wpAny_pure (evalPairs_nil ?_)))
 have Cm := bK.aC.map _ _ (qe.aC.map _ _ hm)
 obtain ⟨D, _⟩ := ax.dict gT Cm
 obtain ⟨lv, D, en⟩ := D.strs
 cases en
 refine ⟨[(V.str x, v'), (V.str y, u')], ⟨(KS.str x _ hx).ok, rfl, (KS.str y _ hy).ok, rfl, trivial⟩, D, fun h' sE Ci => ?_⟩
 have Pu : merged [] [(V.str x, v'), (V.str y, u')] = [(V.str x, v'), (V.str y, u')] := by
  show stored (stored [] (V.str x) v') (V.str y) u' = _
  show stored [(V.str x, v')] (V.str y) u' = _
  unfold stored
  rw [List.any_cons, decide_eq_false (show ¬ V.str x = V.str y from fun e => eU (V.str.inj e))]
  rfl
 rw [Pu] at sE
 obtain ⟨S3, X3⟩ := ax.set (o' := .dict .str [(V.str x, v), (V.str y, v2)]) gT Cm id (.inl rfl) Ci fun g =>
  ⟨.val (b := true) sE (.cons ⟨rfl, (rv.aC bK.aC).aC g⟩ (.cons ⟨rfl, ru.aC g⟩ .nil)), (show 2 <= 1000000 by decide), rfl⟩
 rw [List.set_append_right _ _ (Nat.le_refl _), Nat.sub_self] at S3
 exact q _ _ φ h' _ gB _ (((X0.and qe).and bK).and X3) S3 (.ref Cm)
end
end
variable {xo : E} {st : Stmt}
section
inductive yT (C : Cx) (μ : fm) (h : Heap) : Mine.Flow -> PySem.Flow -> Prop
 | next : yT C μ h .next .next
 | cont : yT C μ h .cont .cont
 | ret {v v'} (r : VR C.T μ h v v') : yT C μ h (.ret v) (.ret v')
def Af (C : Cx) (Λ : Sc) (env : PySem.Env) (μ : fm) (s : Shared) (Φ : PF) (Q : PySem.Flow -> Shared -> Prop) : Prop :=
 ∀ f ρ σ h' tk μ' f', Φ f ρ σ -> Xt (own env) μ μ' s.heap h' -> SI C μ' σ h' -> a4 C Λ env μ' h' ρ -> yT C μ' h' f f' -> Q f' { s with heap := h', toks := tk }
def gh (C : Cx) (d : Nat) (c : Cl) (Λ : Sc) (st : Stmt) (x : S) : Prop :=
 ∀ {A env μ σ ρ s Q EE Φ}, vM C d Λ A env μ σ ρ s -> QV c x ρ σ Φ -> Af C Λ env μ s Φ Q -> wpAny (model C.prog C.w) A (exec st env) Q EE s
def pz (C : Cx) (d : Nat) (c : Cl) (Λ : Sc) (kl : List Stmt) (xs : SL) : Prop :=
 ∀ {A env μ σ ρ s Q EE Φ}, vM C d Λ A env μ σ ρ s -> wX c xs ρ σ Φ -> Af C Λ env μ s Φ Q -> wpAny (model C.prog C.w) A (execs kl env) Q EE s
def n8 (e : Expr) : Prop := ∀ t n env, swapsWith e t n env = pure false
def rS (e : Expr) : Prop := ∀ env x, foldedSetIterable e env x = pure x
noncomputable abbrev j1 (Λ : Sc) (x : Str) (k : Nat) : Prop := Λ.cL.lookup x = some k /\ (Λ.names.lookup x = some .local \/ Λ.names.lookup x = some .cell)
theorem qU {α : Type} {l : List α} {i : Nat} (e : l[i]? = none) : l.drop i = [] := List.drop_eq_nil_iff.mpr (List.getElem?_eq_none_iff.mp e)
theorem qT {α : Type} {l : List α} {i : Nat} {x : α} (e : l[i]? = some x) : l.drop i = x :: l.drop (i + 1) := by
 obtain ⟨h, rfl⟩ := List.getElem?_eq_some_iff.mp e
 exact List.drop_eq_getElem_cons h
section
variable {d : Nat} {c : Cl} {env : PySem.Env} {pos p : Pos} {o e : Expr} {ex : E} {k : Nat} {x : Str} {kl : List Stmt} {y : S} {ys : SL} {Φ : PF} {Q : PySem.Flow -> Shared -> Prop}
theorem Af.more (q : Af C Λ env μ s Φ Q) (X : Xt (own env) μ μ' s.heap h') : Af C Λ env μ' { s with heap := h', toks := tk } Φ Q := fun f ρ σ eH vG c7 f' φ Y S W r => q f ρ σ eH vG c7 f' φ (X.Hx Y) S W r
theorem Bv : pz C d c Λ [] .nil := fun {_ _ μ _ _ s _ _ _} G w q => wpAny_execs_nil (q _ _ _ s.heap s.toks μ .next w .refl G.S G.W .next)
theorem zk (h : gh C d c Λ st y) (hs : pz C d c Λ kl ys) : pz C d c Λ (st :: kl) (.cons y ys) := fun G w q =>
 wpAny_execs_cons (h G w fun f ρ σ h' tk μ' f' φ X S W r => by
  cases r with
  | next => exact hs ⟨G.R, S, W⟩ φ (q.more X)
  | cont => exact q _ _ _ h' tk μ' _ φ X S W .cont
  | ret r => exact q _ _ _ h' tk μ' _ φ X S W (.ret r))
theorem wk (he : b8 C d c Λ e ex) (hx : j1 Λ x k) (hc : n8 e) : gh C d c Λ (.Assign [.Name x p] e pos) (.assign k ex) := fun G w q =>
 wpAny_Assign_Name (he G w fun _ _ φ _ _ aR _ X S rv => iD S (G.W.qi X) hx.1 hx.2 rv fun h' tk X' S' W' => q _ _ _ h' tk aR .next φ (X.and X') S' W' .next) (hc _ _ _)
theorem Bw (he : b8 C d c Λ e ex) (hc : n8 e) : gh C d c Λ (.Expr e pos) (.expr ex) := fun G w q =>
 wpAny_Expr (he G w fun v ab φ h' tk aR v' X S rv => by cases rv <;> first | exact φ.elim | exact q .next _ ab h' tk aR .next φ X.to S (G.W.qi X) .next) (by unfold interactive; rw [G.W.kind]; rfl) (hc _ _ _)
theorem Ef (he : b8 C d c Λ e ex) : gh C d c Λ (.Return (some e) pos) (.ret ex) := fun G w q => wpAny_Return_some (he G w fun _ _ φ h' tk aR _ X S rv => q _ _ _ h' tk aR _ φ X.to S (G.W.qi X) (.ret rv))
theorem tO : gh C d c Λ (.Return none pos) .nq := fun {_ _ μ _ _ s _ _ _} G w q => wpAny_Return_none (q _ _ _ s.heap s.toks μ (.ret .none) w .refl G.S G.W (.ret .none))
theorem Bx : gh C d c Λ (.Continue pos) .cont := fun {_ _ μ _ _ s _ _ _} G w q => wpAny_Continue (q _ _ _ s.heap s.toks μ .cont w .refl G.S G.W .cont)
theorem Eg {t u : List Stmt} {xt xu : SL} (hc : pF C d c Λ e ex) (ht : pz C d c Λ t xt) (hu : pz C d c Λ u xu) : gh C d c Λ (.If e t u pos) (.ite ex xt xu) := fun {_ _ _ _ ρ _ _ _ Φ} G w q =>
 wpAny_If (hc (F := fun _ σ => Rp (wX c xt) (wX c xu) ρ Φ σ) G w fun _ _ b _ _ _ φ _ X S => by
  cases b with
  | true => exact ht (G.on X S) φ (q.more X.to)
  | false => exact hu (G.on X S) φ (q.more X.to))
theorem tN {n : Str} (K : ∀ c < C.g9, mM C c) (ho : b8 C d c Λ o xo) (he : b8 C d c Λ e ex) (hn : C.T.nm k = n) (ha : k ∈ C.mK) (hl : k < C.T.len) (hc : n8 e) : gh C d c Λ (.Assign [.Attribute o n p] e pos) (.setAttr xo k ex) := fun G w q =>
 hn ▸ plainObj_wpAny_Assign_Attribute (he G w fun _ _ φ _ _ _ _ X S rv => ho (G.on X S) φ fun _ _ cb _ _ gB _ bK ax ru => nT K ha hl ax ru (rv.aC bK.aC) cb fun σ' h' tk φ X' S' =>
  have Y := (X.and bK).and X'; q _ _ σ' h' tk gB .next φ Y.to S' (G.W.qi Y) .next) (hc _ _ _)
theorem tM (ho : b8 C d c Λ o xo) (hf : b8 C d c Λ f fx) (he : b8 C d c Λ e ex) (hc : n8 e) : gh C d c Λ (.Assign [.Subscript o f p] e pos) (.setItem xo fx ex) := fun G w q =>
 wpAny_Assign_Subscript (he G w fun _ _ φ _ _ _ _ X S rv => ho (G.on X S) φ fun _ _ cb _ _ _ _ bK ax ru => hf ((G.on X S).on bK ax) cb fun _ _ te _ _ nH _ gV cG HW =>
  vW G.R.u cG (ru.aC gV.aC) HW ((rv.aC bK.aC).aC gV.aC) te fun σ' h' tk φ X' S' => have Y := ((X.and bK).and gV).and X'; q _ _ σ' h' tk nH .next φ Y.to S' (G.W.qi Y) .next) (hc _ _ _)
theorem Ei (ho : b8 C d c Λ o xo) (hf : b8 C d c Λ f fx) : gh C d c Λ (.Delete [.Subscript o f p] pos) (.delItem xo fx) := fun {A env _ _ _ s _ _ _} G w q =>
 wpAny_Delete (show wpAny _ A (delete (.Subscript o f p) env >>= fun _ => deleteEach [] env) _ _ s from wpAny_bind (delete_Subscript (ho G w fun _ _ cb _ _ _ _ bK ax ru => hf (G.on bK ax) cb fun _ _ te _ _ nH _ gV cG HW =>
  xA G.R.u cG (ru.aC gV.aC) HW te fun σ' h' tk φ X' S' => have Y := (bK.and gV).and X'; wpAny_pure (q _ _ σ' h' tk nH .next φ Y.to S' (G.W.qi Y) .next))))
theorem wO {op : vF} {i : Int} {t : Tok} {v : V} {v' : Value} {F : V -> Prop} {Q : Value -> Shared -> Prop} (Nw : op = .add \/ op = .sub) (rv : VR C.T μ s.heap v v') (φ : dd (z8 op (.int i) v) F) (q : ∀ n t tk, F (.int n) -> Q (.int n t) { s with toks := tk }) :
  wpAny (model C.prog C.w) A (inplaceOp (mr op) (.int i t) v') Q EE s := by
 cases rv with
 | int j u =>
  rcases Nw with rfl | rfl
  ·exact PyProof.Rows.iadd_int (q _ _ _ φ)
  ·exact PyProof.Rows.isub_int (q _ _ _ φ)
 | _ => rcases Nw with rfl | rfl <;> exact φ.elim
theorem Ej {n : Str} {op : vF} (Nw : op = .add \/ op = .sub) (K : ∀ c < C.g9, mM C c) (ho : b8 C d c Λ o xo) (he : b8 C d c Λ e ex) (hn : C.T.nm k = n) (ha : k ∈ C.mK) (hl : k < C.T.len) : gh C d c Λ (.AugAssign (.Attribute o n p) (mr op) e pos) (.lB xo k op ex) := fun {_ _ _ _ _ s _ _ _} G w q => by
 subst hn
 refine wpAny_AugAssign_AttributeAny (ho G w fun u ab φ mX xS aR u' X S ru => oI K ha hl S ru φ fun i tk i' φ ri => ?_)
 cases ri with
 | int i t =>
  exact he (G.on X S) φ fun j ah φ kN mh gB j' bK ax rj => wO (s := { s with heap := kN, toks := mh }) Nw rj φ fun n t qm φ =>
   nT (s := { s with heap := kN, toks := qm }) K ha hl ax (ru.aC bK.aC) (.int n t) φ fun σ' h' tk φ X' S' => have Y := (X.and bK).and X'; q _ _ σ' h' tk gB .next φ Y.to S' (G.W.qi Y) .next
 | _ => exact φ.elim
structure Nh (C' : Cx) (Λ : Sc) (env : PySem.Env) (ft μ' : fm) (h₀ : Heap) (I : Addr) (bO : lH) (l : List V) (J : List V -> Mine.Env -> ag -> Prop) (n : Nat) (h : Heap) (μ : fm) (σ : ag) (ρ : Mine.Env) (i : Nat) : Prop where
 X : Xt (own env) ft μ h₀ h
 g : ∀ (n : Nat) p, μ'[n]? = some p -> μ[n]? = some p
 S : SI C' μ σ h
 W : a4 C' Λ env μ h ρ
 it : fR C' μ h I l i bO
 st : d8 bO l σ
 f : I ∉ foot μ
 n : n = (l.drop i).length
 J : J (l.drop i) ρ σ
inductive Dy (C' : Cx) (Λ : Sc) (env : PySem.Env) (ft μ' : fm) (s : Shared) (I : Addr) (bO : lH) (l : List V) (J : List V -> Mine.Env -> ag -> Prop) (m : Nat) : Shared -> Prop
 | mk {h : Heap} {tk : Nat} {μ : fm} {σ : ag} {ρ : Mine.Env} {i : Nat} (B : Nh C' Λ env ft μ' s.heap I bO l J m h μ σ ρ i) : Dy C' Λ env ft μ' s I bO l J m { s with heap := h, toks := tk }
inductive M9 (C : Cx) (Λ : Sc) (env : PySem.Env) (μ : fm) (s : Shared) (I : Nat -> Mine.Env -> ag -> Prop) (m : Nat) : Shared -> Prop
 | mk {h : Heap} {tk : Nat} {aR : fm} {σ : ag} {ρ : Mine.Env} (X : Xt (own env) μ aR s.heap h) (S : SI C aR σ h) (W : a4 C Λ env aR h ρ) (j : I m ρ σ) : M9 C Λ env μ s I m { s with heap := h, toks := tk }
def QE (c : Cl) (xb : SL) (k : Nat) (bO : lH) (l : List V) (J : List V -> Mine.Env -> ag -> Prop) (Φ : PF) : Prop := ∀ x xs ρ σ, J (x :: xs) ρ σ -> ∃ Ψ : PF, wX c xb (ρ.set k (some x)) σ Ψ /\ ∀ f ρ σ, Ψ f ρ σ -> xQ bO l (J xs) Φ f ρ σ
set_option tactic.hygienic true in
theorem CD {px : Pos} {body : List Stmt} {xb : SL} {bO : lH} {l : List V} {J : List V -> Mine.Env -> ag -> Prop} {I : Addr} {F : Addr -> Option Obj} {E : Value -> Shared -> Prop} (hb : ∀ f, pz (C.aW f) d c Λ body xb) (hx : j1 Λ x k) (hJ : QE c xb k bO l J Φ) (UK : ∀ ρ σ, J [] ρ σ -> y8 bO σ fun ah => Φ .next ρ ah)
  (R : qf d A) (W : a4 C Λ env μ s.heap ρ) (q : Af C Λ env μ s Φ Q) (X : Xt [] μ μ' s.heap h') (hI : I ∉ foot μ') (yz : s.heap.objs.size <= I) (UB : C.bN.objs.size <= s.heap.objs.size) (S : SI (C.aW F) μ' σ h') (it : fR (C.aW F) μ' h' I l 0 bO) (st : d8 bO l σ)
  (un : ∀ {c7 cy eH F'}, (∀ (n : Nat) p, μ'[n]? = some p -> c7[n]? = some p) -> SI (C.aW F) c7 cy eH -> y8 bO cy F' -> ∃ aA, F' aA /\ SI C c7 aA eH) (j : J l ρ σ) :
  codeAny (model C.prog C.w) A (.forLoop (.Name x px) (.ref I) body [] env) (fun r s' => match r with | .ok f => Q f s' | .error e => cameBackBy (model C.prog C.w) A env E e s') { s with heap := h', toks := tk } := by
 refine codeAny_forLoop (Dy (C.aW F) Λ env μ μ' s I bO l J) ?_ l.length (.mk ⟨X.to, fun _ _ e => e, S, (W.qi X).aW, it, st, hI, rfl, j⟩)
 rintro m _ ⟨B⟩
 rename_i h xS aR ab As i
 have Cr : I ∉ own env := W.x8 yz
 have RL : (C.aW F).bN.objs.size <= I := Nat.le_trans UB yz
 refine jd (C := C.aW F) (s := { s with heap := h, toks := xS }) R.hh B.S B.it B.st (fun e kN he hz => ?_) fun y hy kN mh v rv yq qF => ?_
 ·have Y := Xt.ext (μ := aR) he B.it.gJ hz
  obtain ⟨aA, φ, cG⟩ := un B.g (B.S.ext he B.f RL B.it.gJ) (UK _ _ (qU e ▸ B.J))
  exact wpAny_execs_nil (q _ _ _ kN xS aR .next φ (B.X.fresh Y yz) cG (B.W.J8 Y Cr).Rb .next)
 ·have Y := Xt.nc (μ := aR) (X := [I]) qF (.head _) B.it.gJ
  refine wpAny_assign_Name (iD (C := C.aW F) (s := { s with heap := kN, toks := mh }) (B.S.nc qF B.f RL B.it.gJ) (B.W.J8 Y Cr) hx.1 hx.2 (rv.aC Y.aC) fun mW qm gV cG QC => ?_)
  have hd := qT hy
  obtain ⟨Ψ, w, Tj⟩ := hJ _ _ _ _ (hd ▸ B.J)
  refine hb F ⟨R, cG, QC⟩ w fun f Gk bc uG ql qh f' φ Ae j0 vw r => ?_
  have φ := Tj _ _ _ φ
  have Xi : Xt (own env) aR qh kN uG := gV.Hx Ae
  have Xa : Xt (own env) μ qh s.heap uG := (B.X.fresh Y yz).Hx Xi
  have Mx : ∀ (n : Nat) p, μ'[n]? = some p -> qh[n]? = some p := fun n p e => Xi.aC.map n p (B.g n p e)
  have more : d8 bO l bc /\ J (l.drop (i + 1)) Gk bc -> ∃ m', m' < m /\ Dy (C.aW F) Λ env μ μ' s I bO l J m' { s with heap := uG, toks := ql } := fun φ =>
   ⟨_, by rw [B.n, hd]; exact Nat.lt_succ_self _, .mk ⟨Xa, Mx, j0, vw, yq.wG Xi.aC fun o ho => Xi.old I o ho B.f Cr, φ.1, fun z => (Xi.new I z).elim B.f fun z => absurd yq.lt (Nat.not_lt.mpr z), rfl, φ.2⟩⟩
  cases r with
  | ret r =>
   obtain ⟨aA, φ, cG⟩ := un Mx j0 φ
   exact q _ _ _ uG ql qh _ φ Xa cG vw.Rb (.ret r)
  | next => exact more φ
  | cont => exact more φ
theorem vU {l : List V} {bO : lH} {xb : SL} {σ' : ag} (LL : d8 bO l σ') : ∀ {ls ρ σ}, Bd bO (tq k (wX c xb) Φ ls ρ σ) -> tq k (wX c xb) Φ ls ρ σ /\ (∀ (σ : ag) (F : ag -> Prop), F σ -> y8 bO σ F) /\ ∀ σ, d8 bO l σ := by
 intro ls ρ σ h
 cases bO with
 | pH => exact ⟨h, fun _ _ f => f, fun _ => trivial⟩
 | seq v =>
  cases v with
  | ae => exact ⟨h, fun _ _ f => f, fun _ => LL⟩
  | _ => exact h.elim
 | j6 => exact h.elim
theorem Eh {px : Pos} {iter : Expr} {xi : E} {body : List Stmt} {xb : SL} (hi : pA C d c Λ iter xi) (hb : ∀ f, pz (C.aW f) d c Λ body xb) (hx : j1 Λ x k) (hs : rS iter) : gh C d c Λ (.For (.Name x px) iter body [] pos) (.dK k xi xb) := by
 intro A env μ σ ρ s Q EE Φ G w q
 refine wpAny_For ?_ (hs _)
 cases (show cT k (wS c xi ρ σ) (wX c xb) ρ Φ from w) with
 | mk I iM LK he =>
  exact hi G iM fun bO l σ' h' tk μ' J f φ X hI yz S it st hl un => CD (J := I bO l) hb hx (fun x xs ρ σ j => ⟨_, LK bO l x xs ρ σ j, fun _ _ _ h => h⟩) (fun ρ σ j => he bO l ρ σ j) G.R G.W q X hI yz G.S.dT S it st un φ
 | ae iM =>
  exact hi G iM fun bO l σ' h' tk μ' J f φ X hI yz S it st hl un =>
   have t := vU st φ
   CD (J := tq k (wX c xb) Φ) hb hx (fun x xs ρ σ j => ⟨_, j, fun f ρ σ h => by
    cases f with
    | ret v => exact t.2.1 _ _ h
    | _ => exact ⟨t.2.2 _, h⟩⟩) (fun ρ σ j => t.2.1 _ _ j) G.R G.W q X hI yz G.S.dT S it st un t.1
set_option tactic.hygienic true in
theorem zl {body : List Stmt} {xb : SL} (he : pF C d c Λ e ex) (hb : pz C d c Λ body xb) : gh C d c Λ (.While e body [] pos) (.while ex xb) := by
 intro A env μ σ ρ s Q EE Φ G w q
 cases (show lY (wE c ex) (wX c xb) ρ σ Φ from w) with
 | mk I n hn h0 hs =>
 refine wpAny_While (codeAny_whileLoop (M9 C Λ env μ s I) ?_ n (.mk (h := s.heap) (tk := s.toks) .refl G.S G.W h0))
 rintro m _ ⟨qe, aU, M8, j⟩
 rename_i h xS aR ab As
 refine he (F := fun _ σ => Ol m I (wX c xb) As Φ σ) ⟨G.R, aU, M8⟩ (hs m As ab j) fun v ah b kN mh gB φ _ bK ax => ?_
 have M7 := M8.qi bK
 cases b with
 | false => exact wpAny_execs_nil (q _ _ _ kN mh gB .next φ (qe.then bK) ax M7 .next)
 | true =>
  obtain ⟨m', hm, w⟩ := φ
  exact hb ⟨G.R, ax, M7⟩ w fun f Gk bc uG ql qh f' φ Ae j0 vw r => by
   have Xa := (qe.then bK).Hx Ae
   cases r with
   | ret r => exact q _ _ _ uG ql qh _ φ Xa j0 vw (.ret r)
   | next => exact ⟨m', hm, .mk Xa j0 vw φ⟩
   | cont => exact ⟨m', hm, .mk Xa j0 vw φ⟩
end
end
section
inductive Ge (Λ : Sc) : List Expr -> List Nat -> Prop
 | nil : Ge Λ [] []
 | cons {x : Str} {p : Pos} {r : List Expr} {k : Nat} {ks : List Nat} : j1 Λ x k -> Ge Λ r ks -> Ge Λ (.Name x p :: r) (k :: ks)
theorem Ge.len {Λ : Sc} {env : PySem.Env} {es : List Expr} {ks : List Nat} (h : Ge Λ es ks) : (assignEach es env).length = ks.length /\ (assignEach es env).findIdx? (·.1) = none := by
 induction h with
 | nil => exact ⟨rfl, rfl⟩
 | @cons x p r k ks _ _ ih =>
  have e : assignEach (.Name x p :: r) env = (false, assign (.Name x p) env) :: assignEach r env := rfl
  rw [e, List.length_cons, ih.1, List.findIdx?_cons, ih.2]
  exact ⟨rfl, rfl⟩
def ya (e : Expr) : Prop := ∀ es k p l env, swapsWithSole [.Tuple es k p] e l env = pure false /\ swappedStores [.Tuple es k p] e env = pure none
section
variable {d : Nat} {c : Cl} {env : PySem.Env} {pos p : Pos} {o e : Expr} {ex : E} {k : Nat} {x : Str} {es : List Expr} {ks : List Nat}
theorem vm (o : Ge Λ es ks) : ∀ {l : List V} {vs : List Value} {ρ : Mine.Env} {s : Shared} {F : Mine.Env -> Prop} {Q : Unit -> Shared -> Prop}, dd (rF ks l ρ) F -> SI C μ σ s.heap -> a4 C Λ env μ s.heap ρ -> eQ C.T μ s.heap l vs ->
  (∀ DM h' tk, F DM -> Xt (own env) μ μ s.heap h' -> SI C μ σ h' -> a4 C Λ env μ h' DM -> Q () { s with heap := h', toks := tk }) -> wpAny (model C.prog C.w) A (assignInOrder ((assignEach es env).map (·.2)) vs) Q EE s := by
 induction o with
 | nil =>
  intro l vs ρ s F Q φ S W rs q
  cases rs with
  | nil => exact wpAny_pure (q _ s.heap s.toks φ .refl S W)
  | cons => exact φ.elim
 | @cons x p r k ks h _ ih =>
  intro l vs ρ s F Q φ S W rs q
  cases rs with
  | nil => exact φ.elim
  | @cons v u l us rv rs =>
   show wpAny _ A (holding us (assign (.Name x p) env u) >>= fun _ => assignInOrder ((assignEach r env).map (·.2)) us) Q EE s
   exact wpAny_bind (wpAny_holding (wpAny_assign_Name (iD S W h.1 h.2 rv fun h' tk X S' W' => ih φ S' W' (eQ.aC X.aC rs) fun DM eH vG φ X' l5 N5 => q DM eH vG φ (X.Hx X') l5 N5)))
theorem vX : ∀ {ks : List Nat} {l : List V} {ρ : Mine.Env} {F : Mine.Env -> Prop}, dd (rF ks l ρ) F -> l.length = ks.length := fun {ks} => by
 induction ks with
 | nil => intro l ρ F h; cases l <;> first | rfl | exact h.elim
 | cons k ks ih => intro l ρ F h; cases l <;> first | exact h.elim | exact congrArg (· + 1) (ih h)
theorem wj (o : Ge Λ es ks) (he : b8 C d c Λ e ex) (hc : ya e) : gh C d c Λ (.Assign [.Tuple es k p] e pos) (.iB ks ex) := fun {_ env _ _ _ _ _ _ _} G w q =>
 Assign_Tuple (he G w fun v ab φ mX tk aR v' X S rv => by
  cases rv with
  | @ae l a vs n ho rs hl =>
   have hz := o.len (env := env)
   refine cx (PySem.wpAny_assign_Tuple G.R.hh ⟨_, ho, rfl, n, rfl⟩ (by rw [hz.1, <- vX φ]; exact rs.size.symm) hz.2 fun h' hx => ?_)
   have hk : ∀ b o, mX.get? b = some o -> h'.get? b = some o := fun b o e => hx b o (Nat.ne_of_lt (Heap.lt_size e)) e
   have W := (G.W.qi X).keep (μ' := aR) (.keep hk) (fun a _ o e => hk a o e) fun a ha => ((G.W.qi X).gI a ha).1
   exact vm o φ (S.gN hk) W (eQ.aC (.keep hk) rs) fun DM eH vG φ X' l5 N5 hz => q _ _ _ eH vG aR .next φ (X.and ⟨(dw.keep hk).trans X'.aC, fun b o e hb hX => X'.old b o (hk b o e) hb hX, hz, fun _ ha => .inl ha⟩) l5 N5 .next
  | _ => exact φ.elim) (hc _ _ _ _ _).1 (hc _ _ _ 0 _).2
noncomputable def i5 (start stop step : Int) (i : Nat) : Bool :=
 if step > 0 then start <= i && i < stop && (i - start) % step == 0 else stop < i && i <= start && (start - i) % (-step) == 0
theorem uf (a n : Nat) : ∀ (l : List Value) (k : Nat), k + l.length = n -> ((l.zipIdx k).filterMap fun (x, j) => if i5 (a : Int) (n : Int) 1 j then none else some x) = l.take (a - k)
 | [], k, _ => by simp
 | x :: r, k, h => by
  rw [List.zipIdx_cons, List.filterMap_cons]
  have ih := uf a n r (k + 1) (by simp at h; lia)
  by_cases hk : k < a
  ·have hs : i5 (a : Int) (n : Int) 1 k = false := by
    unfold i5
    simp only [show (1 : Int) > 0 by decide, if_true]
    have : decide ((a : Int) <= (k : Int)) = false := by simp; lia
    rw [this]; rfl
   simp only [hs, Bool.false_eq_true, if_false, ih]
   obtain ⟨m, hm⟩ : ∃ m, a - k = m + 1 := ⟨a - k - 1, by lia⟩
   rw [hm, List.take_succ_cons, show a - (k + 1) = m by lia]
  ·have hs : i5 (a : Int) (n : Int) 1 k = true := by
    unfold i5
    simp only [show (1 : Int) > 0 by decide, if_true]
    simp at h
    simp
    lia
   simp only [hs, if_true, ih]
   rw [show a - k = 0 by lia, show a - (k + 1) = 0 by lia]; simp
theorem vg (a n : Nat) (h : a <= n) : sliceBounds (some (a : Int)) none none n = ((a : Int), (n : Int), 1) := by
 simp only [sliceBounds, Option.getD_none]
 have h1 : ¬ ((a : Int) < 0) := by lia
 simp only [h1, if_false, show (1 : Int) > 0 by decide, if_true]
 congr 1
 lia
theorem sS (a n : Nat) (h : n <= a) : sliceBounds (some (a : Int)) none none n = ((n : Int), (n : Int), 1) := by
 simp only [sliceBounds, Option.getD_none]
 have h1 : ¬ ((a : Int) < 0) := by lia
 simp only [h1, if_false, show (1 : Int) > 0 by decide, if_true]
 congr 1
 lia
theorem u7 {l sl : Addr} {ck : Array Value} {n : Nat} {i : Int} {u : Tok} {Q : Unit -> Shared -> Prop} (ho : s.heap.get? l = some (fV ck n)) (hs : s.heap.IsSliceOf sl (.int i u) .none .none) (hi : 0 <= i) (jm : ck.size <= 1000000)
  (h : ∀ h' n', h'.get? l = some (fV (ck.toList.take i.toNat).toArray n') -> Heap.SameBut l s.heap h' -> Q () { s with heap := h' }) : wpAny (model C.prog C.w) A (PySem.delItem (.ref l) (.ref sl)) Q EE s := by
 have hT : s.TypeIs (.ref l) "list" := ⟨_, ho, rfl⟩
 obtain ⟨os, Fa, Mf, Jc⟩ := id hs
 have NI : s.TypeIs (.ref sl) "slice" := ⟨os, Fa, Mf⟩
 refine wpAny_delItem_slot hT (by decide) PySem.F.slot_list_delitem (wpAny_call_entry PySem.F.slot_list_delitem hT PySem.F.entry_list_delitem ?_ (PySem.F.args_list_delitem_2 _ _))
 show wpAny _ _ (Builtin.List.listSubscript? (.ref sl) >>= _) _ _ s
 refine wpAny_bind ?_
 unfold Builtin.List.listSubscript?
 refine wpAny_bind (wpAny_specialOf NI slice_no_index ?_)
 simp only [Option.isNone_none, if_true]
 refine wpAny_pure ?_
 show wpAny _ _ (typeOf (.ref sl) >>= _) _ _ s
 refine wpAny_bind (wpAny_typeOf NI ?_)
 rw [if_neg (by decide)]
 rw [listSliceParts_eq]
 refine wpAny_bind (wpAny_bind (wpAny_field Fa Jc (x := .none) rfl (wpAny_bind (wpAny_listPart .none ?_))))
 rw [if_neg (by decide)]
 refine wpAny_bind (wpAny_field Fa Jc (x := .int i u) rfl (wpAny_bind (wpAny_listPart (.int i u) ?_)))
 refine wpAny_bind (wpAny_field Fa Jc (x := .none) rfl (wpAny_bind (wpAny_listPart .none (wpAny_pure ?_))))
 refine wpAny_bind (listItems_at ho rfl ?_)
 have e3 := sliceIndices_raw (some i) none none ck.size (by simp)
 refine wpAny_bind (wpAny_of_eq e3 ?_)
 have eb : ∃ a : Nat, sliceBounds (some i) none none ck.size = ((a : Int), (ck.size : Int), 1) /\ ck.toList.take a = ck.toList.take i.toNat := by
  have ei : (i.toNat : Int) = i := by lia
  by_cases q : i.toNat <= ck.size
  ·exact ⟨i.toNat, by rw [<- ei]; exact vg i.toNat ck.size q, rfl⟩
  ·refine ⟨ck.size, by rw [<- ei]; exact sS i.toNat ck.size (by lia), ?_⟩
   rw [List.take_of_length_le (by simp), List.take_of_length_le (by rw [Array.length_toList]; lia)]
 obtain ⟨a, eb, et⟩ := eb
 rw [eb]
 refine wpAny_bind (wpAny_rule ?_)
 have ek := uf a ck.size ck.toList 0 (by simp)
 rw [Nat.sub_zero, et] at ek
 let F : Array Value -> Array Value := fun xs => (xs.toList.zipIdx.filterMap fun (x, k) => if i5 (a : Int) (ck.size : Int) 1 k then none else some x).toArray
 have hF : F ck = (ck.toList.take i.toNat).toArray := by show List.toArray _ = _; rw [ek]
 obtain ⟨n', hg⟩ : ∃ n', (s.heap.update l (Obj.mapSeq F)).get? l = some (fV (ck.toList.take i.toNat).toArray n') := by
  have := IsL.update ho F
  unfold IsL at this
  rw [hF] at this
  exact ⟨_, this⟩
 have a6 := h _ n' hg (Heap.SameBut.update ..)
 have hz : (F ck).size <= sizeLine + 1 := by rw [hF, List.size_toArray, List.length_take, Array.length_toList, sizeLine_eq]; lia
 refine wpAny_bind (listUpdate_at (f := F) ho rfl ?_ (by rw [sizeLine_eq]; lia) hz)
 refine wpAny_bind (wpAny_letGo ?_)
 exact wpAny_pure ⟨.none, rfl, a6⟩
theorem tP {ps : Pos} (ho : b8 C d c Λ o xo) (hf : b8 C d c Λ f fx) : gh C d c Λ (.Delete [.Subscript o (.Slice (some f) none none ps) p] pos) (.sO xo fx) := fun {A env _ _ _ s _ _ _} G w q =>
 wpAny_Delete (show wpAny _ A (delete (.Subscript o (.Slice (some f) none none ps) p) env >>= fun _ => deleteEach [] env) _ _ s from wpAny_bind (delete_Subscript (ho G w fun u ah cb _ _ gB u' bK ax ru => wpAny_Slice (by
  rw [evalPart_some]
  refine hf (G.on bK ax) cb fun w aA te mW qm nH w' gV cG HW => wpAny_pure (wpAny_pure ?_)
  have ru := ru.aC gV.aC
  cases (show Oh _ _ _ _ from te) with
  | @mk n l i hn hi φ =>
  cases HW with
  | int _ t =>
  cases ru with
  | ref hm =>
  obtain ⟨ck, kk, hg, rs, hz, e⟩ := cG.list hn hm
  have kp := aJ (h := mW) (eR (.int i t) .none)
  have Y : Xt [] nH nH mW (mW.push (eR (.int i t) .none)) := .keep kp a8
  refine u7 (i := i) (u := t) (kp _ _ hg) (Heap.IsSliceOf.new ..) hi (by rw [rs.size]; exact hz) fun h' n' PC TK => ?_
  obtain ⟨S', X'⟩ := (cG.gN kp).set (o' := .list (_ : List V)) hn hm id (.inl rfl) TK fun g => ⟨_, n', PC, ((rs.aC Y.aC).aC g).take i.toNat, Nat.le_trans (List.length_take_le' _ _) hz, e⟩
  have Z := ((bK.and gV).and Y).and X'
  exact wpAny_pure (q _ _ _ h' qm nH .next φ Z.to S' (G.W.qi Z) .next)))))
end
end
variable {names : List (Str × NameKind)} {j : Nat} {acc : List (Str × Addr)}
section
noncomputable def zg (ml : List (Str × NameKind)) (n : Str) (k : NameKind) : NameKind := if (k == .free && ml.lookup n == some .cell) then .cell else k
noncomputable def fA (names ml : List (Str × NameKind)) : List (Str × NameKind) := names.map fun y => (y.1, zg ml y.1 y.2)
noncomputable def ve (cells : List (Str × Addr)) (names : List (Str × NameKind)) (acc : List (Str × Addr)) : List (Str × Addr) := names.foldl (fun acc y => if y.2 = .free then (y.1, (cells.lookup y.1).getD 0) :: acc else acc) acc
noncomputable def B5 (names : List (Str × NameKind)) (y : Str) : Bool := names.any fun z => z.1 == y && z.2 == .free
noncomputable def uq (cL : List (Str × Nat)) (names : List (Str × NameKind)) : List (Str × Nat) := cL.filter fun p => B5 names p.1
noncomputable def bD (Λ : Sc) (names : List (Str × NameKind)) (x : Str) (k : Nat) : Sc := ⟨fA names Λ.names, (x, k) :: uq Λ.cL names⟩
structure dy (Λ : Sc) (scope : Scope) (x : Str) (k : Nat) : Prop where
 kind : scope.kind = .function
 cell : ∀ y ∈ scope.names, y.2 ≠ .cell
 names : ∀ y ∈ scope.names, y.2 = .local -> scope.names.lookup y.1 = some .local
 var : scope.names.lookup x = some .local
 free : ∀ n, (n, NameKind.free) ∈ scope.names -> scope.names.lookup n = some .free /\ ∃ j, Λ.cL.lookup n = some j /\ j ≠ k /\ (Λ.names.lookup n = some .cell \/ Λ.names.lookup n = some .free)
section
variable {β : Type} {ml : List (Str × NameKind)} {x y : Str} {cL : List (Str × Nat)} {cells : List (Str × Addr)} {c : Addr}
theorem bQ {l : List (Str × β)} {p : Str × β} : (p :: l).lookup y = if y = p.1 then some p.2 else l.lookup y := by
 rw [List.lookup_cons]
 by_cases e : y = p.1
 ·rw [if_pos e, beq_iff_eq.mpr e]
 ·rw [if_neg e, beq_eq_false_iff_ne.mpr e]
theorem ia : (fA names ml).lookup x = (names.lookup x).map fun k => zg ml x k := by
 induction names with
 | nil => rfl
 | cons p r ih =>
  show List.lookup x ((p.1, zg ml p.1 p.2) :: fA r ml) = _
  rw [bQ, bQ]
  by_cases h : x = p.1
  ·rw [if_pos h, if_pos h, h]; rfl
  ·rw [if_neg h, if_neg h]; exact ih
theorem qa {g : Str -> Bool} (h : (cL.filter fun p => g p.1).lookup y = some j) : g y = true /\ cL.lookup y = some j := by
 induction cL with
 | nil => cases h
 | cons p r ih =>
  rw [List.filter_cons] at h
  rw [bQ]
  cases e : g p.1 with
  | true =>
   rw [e, if_pos rfl, bQ] at h
   by_cases q : y = p.1
   ·rw [if_pos q] at h ⊢; exact ⟨q ▸ e, h⟩
   ·rw [if_neg q] at h ⊢; exact ih h
  | false =>
   rw [e, if_neg Bool.false_ne_true] at h
   obtain ⟨h1, h2⟩ := ih h
   rw [if_neg fun q : y = p.1 => Bool.false_ne_true (e.symm.trans (q ▸ h1))]
   exact ⟨h1, h2⟩
theorem wM (h : B5 names y = true) : (y, NameKind.free) ∈ names := by
 obtain ⟨⟨z, k⟩, hz, h⟩ := List.any_eq_true.mp h
 obtain ⟨h1, h2⟩ := Bool.and_eq_true_iff.mp h
 cases eq_of_beq h1
 cases k <;> first | exact hz | exact absurd (show false = true from h2) Bool.false_ne_true
theorem du {l : List (Str × β)} {c : β} (h : (y, c) ∈ l) : ∃ c', l.lookup y = some c' := by
 induction l with
 | nil => cases h
 | cons p r ih =>
  rw [bQ]
  by_cases e : y = p.1
  ·exact ⟨_, if_pos e⟩
  ·rw [if_neg e]
   exact ih ((List.mem_cons.mp h).resolve_left fun q => e (congrArg Prod.fst q))
noncomputable abbrev lG (cells : List (Str × Addr)) (names : List (Str × NameKind)) : Prop := ∀ n, (n, NameKind.free) ∈ names -> ∃ c, cells.lookup n = some c
theorem lT {k : NameKind} : ve cells ((x, k) :: names) acc = ve cells names (if k = .free then (x, (cells.lookup x).getD 0) :: acc else acc) := rfl
theorem pd (hs : lG cells names) (h : (y, c) ∈ ve cells names acc) : (y, c) ∈ acc \/ cells.lookup y = some c := by
 induction names generalizing acc with
 | nil => exact .inl h
 | cons p r ih =>
  obtain ⟨n, k⟩ := p
  rw [lT] at h
  rcases ih (fun m hm => hs m (.tail _ hm)) h with q | q
  ·by_cases hk : k = .free
   ·rw [if_pos hk] at q
    rcases List.mem_cons.mp q with e | q
    ·obtain ⟨c', hc⟩ := hs n (hk ▸ .head _)
     rw [hc] at e
     cases e
     exact .inr hc
    ·exact .inl q
   ·rw [if_neg hk] at q; exact .inl q
  ·exact .inr q
theorem vd (h : (y, NameKind.free) ∈ names \/ ∃ c, (y, c) ∈ acc) : ∃ c, (y, c) ∈ ve cells names acc := by
 induction names generalizing acc with
 | nil => exact h.elim (fun h => nomatch h) id
 | cons p r ih =>
  obtain ⟨n, k⟩ := p
  rw [lT]
  refine ih ?_
  rcases h with h | ⟨c, h⟩
  ·rcases List.mem_cons.mp h with q | q
   ·cases q; exact .inr ⟨_, .head _⟩
   ·exact .inl q
  ·refine .inr ⟨c, ?_⟩
   split
   ·exact .tail _ h
   ·exact h
theorem pb {env : PySem.Env} {scope : Scope} (hs : lG env.cells scope.names) : closureFor scope env = pure (ve env.cells scope.names []) := by
 unfold closureFor
 have go : ∀ (names : List (Str × NameKind)) (acc : List (Str × Addr)), lG env.cells names ->
   (forIn names acc fun (x : Str × NameKind) (r : List (Str × Addr)) => (do
    if (x.2 == NameKind.free) = true then do
     let c <- cellOf env x.1
     pure (ForInStep.yield ((x.1, c) :: r))
    else pure (ForInStep.yield r) : Sem (ForInStep (List (Str × Addr))))) = pure (ve env.cells names acc) := by
  intro names
  induction names with
  | nil => intro acc _; rfl
  | cons x r ih =>
   intro acc hs
   obtain ⟨n, k⟩ := x
   rw [List.forIn_cons, lT, <- ih _ fun m hm => hs m (.tail _ hm)]
   cases k with
   | free =>
    obtain ⟨c, hc⟩ := hs n (.head _)
    have Mg : cellOf env n = pure c := by unfold cellOf; rw [hc]
    show (do let c <- cellOf env n; _) >>= _ = _
    rw [Mg, hc]
    rfl
   | _ => rfl
 exact (bind_pure _).trans (go scope.names [] hs)
end
end
variable {scope : Scope}
section
section
variable {d : Nat} {c : Cl} {env : PySem.Env} {x y : Str} {k : Nat} {Cc : Addr} {m : Str -> Option Value}
theorem dy.cells (O : dy Λ scope x k) (W : a4 C Λ env μ h ρ) : lG env.cells scope.names := fun n hn => (O.free n hn).2.elim fun j h => W.has n j h.1 h.2.2
theorem dy.cL (O : dy Λ scope x k) (hy : (bD Λ scope.names x k).cL.lookup y = some j) : (y = x /\ j = k) \/ (y ≠ x /\ (y, NameKind.free) ∈ scope.names /\ Λ.cL.lookup y = some j /\ j ≠ k) := by
 have hy : ((x, k) :: uq Λ.cL scope.names).lookup y = some j := hy
 rw [bQ] at hy
 by_cases e : y = x
 ·rw [if_pos e] at hy; exact .inl ⟨e, (Option.some.inj hy).symm⟩
 ·rw [if_neg e] at hy
  obtain ⟨h1, h2⟩ := qa hy
  have hm := wM h1
  obtain ⟨_, i, hi, eU, _⟩ := O.free y hm
  exact .inr ⟨e, hm, h2, fun q => eU (Option.some.inj (hi.symm.trans (h2.trans (congrArg some q))))⟩
theorem dy.kx (O : dy Λ scope x k) : (bD Λ scope.names x k).names.lookup x = some .local := by
 show (fA scope.names Λ.names).lookup x = _
 rw [ia, O.var]; rfl
theorem dy.kf (O : dy Λ scope x k) (hy : (y, NameKind.free) ∈ scope.names) : (bD Λ scope.names x k).names.lookup y = some .cell \/ (bD Λ scope.names x k).names.lookup y = some .free := by
 show (fA scope.names Λ.names).lookup y = _ \/ (fA scope.names Λ.names).lookup y = _
 rw [ia, (O.free y hy).1]
 show some (zg Λ.names y .free) = _ \/ some (zg Λ.names y .free) = _
 unfold zg
 split
 ·exact .inl rfl
 ·exact .inr rfl
noncomputable abbrev fJ (scope : Scope) (env : PySem.Env) (Cc : Addr) : PySem.Env := compEnvC scope (ve env.cells scope.names []) Cc env
theorem jS (O : dy Λ scope x k) (W : a4 C Λ env μ h ρ) {y : Str} {c : Addr} (hm : (fJ scope env Cc).cells.lookup y = some c) : env.cells.lookup y = some c :=
 (pd (O.cells W) (bI hm)).resolve_left fun h => nomatch h
theorem qD (O : dy Λ scope x k) (W : a4 C Λ env μ h ρ) {a : Addr} (ha : a ∈ own (fJ scope env Cc)) : a = Cc \/ a ∈ own env := by
 rcases List.mem_cons.mp ha with e | ha
 ·exact .inl e
 ·obtain ⟨⟨y, c⟩, hy, rfl⟩ := List.mem_map.mp ha
  exact .inr (nY ((pd (O.cells W) hy).resolve_left fun h => nomatch h))
theorem a4.LB (W : a4 C Λ env μ h ρ) (O : dy Λ scope x k) (hn : h.Ns Cc m) (hf : Cc ∉ foot μ) (hb : C.bN.objs.size <= Cc) : a4 C (bD Λ scope.names x k) (fJ scope env Cc) μ h (ρ.set k none) where
 kind := O.kind
 kn y := by
  show List.lookup y (scope.names.map fun z => _) = List.lookup y (fA scope.names Λ.names)
  refine congrArg (List.lookup y) (List.map_congr_left fun ⟨n, kd⟩ _ => ?_)
  show (if (kd == NameKind.free && env.scope.kind == .function && env.kindOf n == some .cell) = true then (n, NameKind.cell) else (n, kd)) = (n, if (kd == NameKind.free && Λ.names.lookup n == some .cell) = true then NameKind.cell else kd)
  rw [W.kn, W.kind]
  cases kd <;> first | rfl | (show (if (Λ.names.lookup n == some .cell) = true then _ else _) = (n, if (Λ.names.lookup n == some .cell) = true then _ else _); split <;> rfl)
 aq := W.aq
 blt := W.blt
 aa := ⟨m, hn⟩
 yM y c hc := W.yM y c (bI ((pd (O.cells W) hc).resolve_left fun h => nomatch h))
 gI a ha := (qD O W ha).elim (fun e => e ▸ ⟨hf, hb⟩) (W.gI a)
 inj y z c hy hz := W.inj y z c (jS O W hy) (jS O W hz)
 has y j hy hk := by
  rcases O.cL hy with ⟨rfl, rfl⟩ | ⟨_, zH, _⟩
  ·rw [O.kx] at hk; rcases hk with e | e <;> cases e
  ·obtain ⟨c, hc⟩ := vd (cells := env.cells) (acc := []) (.inl zH)
   exact du hc
 slots y z j hy hz := by
  rcases O.cL hy with ⟨rfl, rfl⟩ | ⟨_, _, h1, eU⟩
  ·rcases O.cL hz with ⟨rfl, _⟩ | ⟨_, _, _, eU⟩
   ·rfl
   ·exact absurd rfl eU
  ·rcases O.cL hz with ⟨_, rfl⟩ | ⟨_, _, h2, _⟩
   ·exact absurd rfl eU
   ·exact W.slots y z j h1 h2
 gj y j v hy hv := by
  rcases O.cL hy with ⟨rfl, rfl⟩ | ⟨_, zH, h1, eU⟩
  ·rw [List.getElem?_set_self'] at hv
   cases q : ρ[j]? <;> rw [q] at hv <;> cases hv
  ·rw [List.getElem?_set_ne (Ne.symm eU)] at hv
   obtain ⟨v', rv, hh⟩ := W.gj y j v h1 hv
   refine ⟨v', rv, ?_⟩
   obtain ⟨_, i, hi, _, Ul⟩ := O.free y zH
   cases hh with
   | aa hk => rcases Ul with e | e <;> cases hk.symm.trans e
   | cell hk hc GK =>
    obtain ⟨c', DJ⟩ := vd (cells := env.cells) (acc := []) (.inl zH)
    obtain ⟨VI, Mi⟩ := du DJ
    have e := jS (Cc := Cc) O W Mi
    cases hc.symm.trans e
    exact .cell (O.kf zH) Mi GK
theorem E1 {I : Addr} {bO : lH} {l : List V} {i : Nat} {Q : Value -> Shared -> Prop} (x : fR C μ s.heap I l i bO) (h : Q (.ref I) s) : wpAny (model C.prog C.w) A (pyIter (.ref I)) Q EE s := by
 cases x with
 | pH _ hI => exact wpAny_pyIter_rangeiter hI h
 | yk _ hI => exact wpAny_pyIter_listiter hI h
 | ae _ _ hI => exact wpAny_pyIter_tupleiter hI h
 | j6 _ _ _ _ hI => exact wpAny_pyIter_keyiter hI h
theorem y9 {env : PySem.Env} (ifs : List Expr) : (forIn ifs false fun (c : Expr) (r : Bool) => (if r = true then do let ok <- isTrue c env (eval c env); pure (ForInStep.yield ok) else pure (ForInStep.yield r) : Sem (ForInStep Bool))) = pure false := by
 induction ifs with
 | nil => rfl
 | cons c r ih => rw [List.forIn_cons]; exact ih
theorem Ba {ifs : List Expr} {il : EL} (o : tc (pF C d c Λ) ifs il) : ∀ {A : Around} {env : PySem.Env} {μ : fm} {σ : ag} {ρ : Mine.Env} {s : Shared} {Q : Bool -> Shared -> Prop} {E : Value -> Shared -> Prop} {Ψ : Bool -> ag -> Prop}, vM C d Λ A env μ σ ρ s -> wC c il ρ σ Ψ ->
  (∀ b σ' h' tk μ', Ψ b σ' -> Xt [] μ μ' s.heap h' -> SI C μ' σ' h' -> Q b { s with heap := h', toks := tk }) ->
  wpAny (model C.prog C.w) A (forIn ifs true fun c r => if r = true then do let ok <- isTrue c env (eval c env); pure (ForInStep.yield ok) else pure (ForInStep.yield r)) Q E s := by
 induction o with
 | nil =>
  intro A env μ σ ρ s Q E Ψ G w q
  exact wpAny_pure (q true σ s.heap s.toks μ w .refl G.S)
 | @cons e es x xs ho hs ih =>
  intro A env μ σ ρ s Q E Ψ G w q
  rw [List.forIn_cons]
  refine wpAny_bind (wpAny_bind (ho (F := fun _ σ => G4 (wC c xs ρ) Ψ σ) G w fun v ab b h' tk aR φ _ X S => wpAny_pure ?_))
  cases b with
  | true => exact ih (G.on X S) φ fun b σ' eH vG μ' φ X' S' => q b σ' eH vG μ' φ (X.and X') S'
  | false => exact wpAny_of_eq (y9 es) (q false ab h' tk aR φ X S)
end
end
section
structure JO (C' : Cx) (Λ : Sc) (xB : PySem.Env) (ft μ' : fm) (h₀ : Heap) (I D Cc : Addr) (bO : lH) (l : List V) (J : List V -> List V -> ag -> Prop) (ρ : Mine.Env) (k n : Nat) (h : Heap) (μ : fm) (σ : ag) (i : Nat) (ys : Array Value) (m : Nat) (dn : List V) (w : Option V) : Prop where
 X : Xt [] ft μ h₀ h
 g : ∀ (n : Nat) p, μ'[n]? = some p -> μ[n]? = some p
 S : SI C' μ σ h
 V : a4 C' Λ xB μ h (ρ.set k w)
 it : fR C' μ h I l i bO
 st : d8 bO l σ
 f : ∀ a, a = I \/ a = D \/ a = Cc -> a ∉ foot μ
 D : h.get? D = some (fV ys m)
 rs : eQ C'.T μ h dn ys.toList
 z : dn.length <= i
 n : n = (l.drop i).length
 J : J (l.drop i) dn σ
inductive DA (C' : Cx) (Λ : Sc) (xB : PySem.Env) (ft μ' : fm) (s : Shared) (I D Cc : Addr) (bO : lH) (l : List V) (J : List V -> List V -> ag -> Prop) (ρ : Mine.Env) (k m : Nat) : Shared -> Prop
 | mk {h : Heap} {tk : Nat} {μ : fm} {σ : ag} {i : Nat} {ys : Array Value} {n : Nat} {dn : List V} {w : Option V} (B : JO C' Λ xB ft μ' s.heap I D Cc bO l J ρ k m h μ σ i ys n dn w) : DA C' Λ xB ft μ' s I D Cc bO l J ρ k m { s with heap := h, toks := tk }
structure s4 (C : Cx) (μ : fm) (s : Shared) (Φ : PQ) (D Cc : Addr) (h' : Heap) (aR : fm) (acc : List V) (aA : ag) (ys : Array Value) (n : Nat) (m : Str -> Option Value) : Prop where
 φ : Φ (.ref aA.length) (aA ++ [.list acc])
 hD : s.heap.objs.size <= D
 hC : s.heap.objs.size <= Cc
 ne : D ≠ Cc
 ns : h'.Ns Cc m
 o : h'.get? D = some (fV ys n)
 rs : eQ C.T aR h' acc ys.toList
 z : acc.length <= 1000000
 fD : D ∉ foot aR
 fC : Cc ∉ foot aR
 X : Xt [] μ aR s.heap h'
 S : SI C aR aA h'
theorem CU {c : Cl} {xi : E} {ρ : Env} {σ : ag} {R : PS} (w : match xi with | .range _ => wR c xi ρ σ (HY R) | _ => wE c xi ρ σ (tD R)) : wS c xi ρ σ R := by cases xi <;> exact w
section
variable {d : Nat} {c : Cl} {env : PySem.Env} {x y : Str} {k : Nat} {na iter : Expr} {xe xi : E} {px py pos Kw : Pos} {ifs : List Expr} {il : EL}
set_option tactic.hygienic true in
theorem qW {RR : Value -> Addr -> Result -> Shared -> Prop} (hi : pA C d c Λ iter xi) (O : dy Λ scope x k) (hc : ∀ f, tc (pF (C.aW f) d c (bD Λ scope.names x k)) ifs il) (he : ∀ f, b8 (C.aW f) d c (bD Λ scope.names x k) na xe)
  (G : vM C d Λ A env μ σ ρ s) (w : wE c (.comp xe k xi il) ρ σ Φ) (q : ∀ D Cc h' tk aR acc aA ys n m, s4 C μ s Φ D Cc h' aR acc aA ys n m -> RR (.ref D) Cc (.ok .next) { s with heap := h', toks := tk }) :
  wpAny (model C.prog C.w) A (eval iter env) (fun xv fz => wpAny (model C.prog C.w) A (pyIter xv) (fun it OA => wpAny (model C.prog C.w) A (newList []) (fun acc Oz =>
   wpAny (model C.prog C.w) A (newFunctionEnv scope env.globals (ve env.cells scope.names []) [] env.qual none .none (some env)) (fun xB Oy =>
    codeAny (model C.prog C.w) A (.compStart (.ListComp na [⟨.Name x px, iter, ifs, 0⟩] scope pos) 0 it acc { xB with scope := relabel scope env }) (RR acc xB.locals) Oy) EE Oz) EE OA) EE fz) EE s := by
 cases (show c6 _ _ _ _ from w) with
 | mk J iM hs PE =>
 refine hi G (CU iM) fun bO l ab h0 Q0 ft I f φ X hI yz S0 PA LL cQ un => ?_
 have W0 := (G.W.qi X).aW (f := f)
 refine wpAny_newObj_type (wpAny_newFunctionEnv O.cell (fun y hy => nomatch hy) (fun mX sD lP => ?_) O.kind)
 dsimp only at sD lP ⊢
 generalize NJ : h0.push { cls := .type "list", dict := none, data := .seq ([] : List Value).toArray } = H2 at sD lP ⊢
 generalize UL : H2.objs.size = Cc at sD lP ⊢
 generalize GS : h0.objs.size = D
 have NL : Cc = D + 1 := by rw [<- UL, <- NJ, Heap.size_push, GS]
 have NK : D ≠ Cc := by rw [NL]; exact Nat.ne_of_lt (Nat.lt_succ_self _)
 have Mu : s.heap.objs.size <= D := GS ▸ X.size
 have Fm : s.heap.objs.size <= Cc := by rw [NL]; exact Nat.le_succ_of_le Mu
 have S9 : ∀ {b o}, h0.get? b = some o -> b < D := fun e => GS ▸ Heap.lt_size e
 have Ri : ∀ {b}, b < D -> b ≠ Cc := fun e => Nat.ne_of_lt (by rw [NL]; exact Nat.lt_succ_of_lt e)
 have old : ∀ b o, h0.get? b = some o -> mX.get? b = some o := fun b o e => (lP.2 b (Ri (S9 e))).trans (aJ _ _ _ (NJ ▸ aJ _ _ _ e))
 have IY : h0.objs.size <= mX.objs.size := by rw [lP.1]; exact Nat.le_trans (by rw [<- NJ]; exact a8) a8
 have Mt : mX.get? D = some (fV #[] 0) := (lP.2 _ NK).trans (aJ _ _ _ (GS ▸ NJ ▸ cC rfl))
 have qe : Xt [] ft ft h0 mX := .keep old IY
 have GG := PA.wG qe.aC fun o e => old _ o e
 have hb : ∀ {a}, s.heap.objs.size <= a -> (C.aW f).bN.objs.size <= a := fun h => Nat.le_trans G.S.dT h
 have hf : ∀ a, a = I \/ a = D \/ a = Cc -> a ∉ foot ft /\ s.heap.objs.size <= a := fun a ha => by
  rcases ha with rfl | rfl | rfl
  ·exact ⟨hI, yz⟩
  ·exact ⟨fun z => absurd (S0.hU z) (Nat.not_lt.mpr (Nat.le_of_eq GS)), Mu⟩
  ·exact ⟨fun z => absurd (S0.hU z) (Nat.not_lt.mpr (NL ▸ GS ▸ Nat.le_succ _)), Fm⟩
 have PW : I ≠ D := GS ▸ Nat.ne_of_lt PA.lt
 have PX : I ≠ Cc := Ri (GS ▸ PA.lt)
 have K8 : ∀ {a}, a = I \/ a = D -> a ∉ own (fJ scope env Cc) := fun ha z => (qD O G.W z).elim (fun e => ha.elim (fun h => PX (h ▸ e)) fun h => NK (h ▸ e)) fun z => absurd (G.W.rO z) (Nat.not_lt.mpr (hf _ (ha.imp id .inl)).2)
 have QD : a4 (C.aW f) (bD Λ scope.names x k) (fJ scope env Cc) ft mX (ρ.set k none) := (W0.qi qe).LB O sD (hf _ (.inr (.inr rfl))).1 (hb Fm)
 have Su : (bD Λ scope.names x k).cL.lookup x = some k := bQ.trans (if_pos rfl)
 have dK : codeAny (model C.prog C.w) A (.compLoop (.ListComp na [⟨.Name x px, iter, ifs, 0⟩] scope pos) 0 (.ref I) (.ref D) (fJ scope env Cc)) (RR (.ref D) Cc) { s with heap := mX, toks := Q0 + ([] : List (Str × Value)).length } := by
  refine codeAny_compLoop_tests (DA (C.aW f) (bD Λ scope.names x k) (fJ scope env Cc) μ ft s I D Cc bO l (J bO l) ρ k) ?_ l.length
   (.mk (ys := #[]) (dn := []) (w := none) ⟨X.and qe, fun _ _ e => e, S0.gN old, QD, GG, LL, fun a ha => (hf a ha).1, Mt, .nil, Nat.le_refl _, rfl, φ⟩)
  rintro m _ ⟨B⟩
  rename_i h tk aR ah i ys n dn w
  refine jd (C := C.aW f) (s := { s with heap := h, toks := tk }) G.R.hh B.S B.it B.st (fun e kN hx jm => ?_) fun yv hy kN mh v rv yq qF => ?_
  ·have Y := Xt.ext (μ := aR) hx B.it.gJ jm
   obtain ⟨h1, h2⟩ := PE bO l dn ah (qU e ▸ B.J)
   obtain ⟨aA, φ, cG⟩ := un B.g (B.S.ext hx (B.f I (.inl rfl)) (hb yz) B.it.gJ) h2
   obtain ⟨m', iN⟩ := B.V.aa
   exact q D Cc kN tk aR dn aA ys n m' ⟨φ, Mu, Fm, NK, iN.at' fun o e => hx _ o (Ne.symm PX) e, hx _ _ (Ne.symm PW) B.D, B.rs.aC Y.aC, h1, B.f D (.inr (.inl rfl)), B.f Cc (.inr (.inr rfl)), B.X.fresh Y yz, cG⟩
  ·have Y := Xt.nc (μ := aR) (X := [I]) qF (.head _) B.it.gJ
   have Na := B.V.J8 Y (K8 (.inl rfl))
   refine wpAny_assign_Name (mi (C := C.aW f) (s := { s with heap := kN, toks := mh }) (B.S.nc qF (B.f I (.inl rfl)) (hb yz) B.it.gJ) Na Su O.kx (rv.aC Y.aC) fun mW qm Ch cG Ga => ?_)
   rw [List.set_set] at Ga
   have gV : Xt [Cc] aR aR kN mW := .nc Ch (.head _) (Na.g8 (.head _))
   have Ct : mW.get? D = some (fV ys n) := (Ch.2 _ NK).trans ((qF.2 _ (Ne.symm PW)).trans B.D)
   have Hf : Xt [] μ aR s.heap mW := (B.X.fresh Y yz).fresh gV Fm
   have B1 := yq.wG gV.aC fun o e => (Ch.2 _ PX).trans e
   have Gs : eQ C.T aR mW dn ys.toList := (B.rs.aC Y.aC).aC gV.aC
   have hd := qT hy
   have Li : ∀ a, a = I \/ a = D \/ a = Cc -> a < mW.objs.size := fun a ha => by
    rcases ha with rfl | rfl | rfl
    ·exact B1.lt
    ·exact Heap.lt_size Ct
    ·exact Ga.rO (.head _)
   have gI : ∀ {E4 tf}, Xt [] aR tf mW E4 -> ∀ a, a = I \/ a = D \/ a = Cc -> a ∉ foot tf := fun F9 a ha z => (F9.new a z).elim (B.f a ha) fun z => absurd (Li a ha) (Nat.not_lt.mpr z)
   have fP : (l.drop (i + 1)).length < m := by rw [B.n, hd]; exact Nat.lt_succ_self _
   refine Ba (hc f) (s := { s with heap := mW, toks := qm }) ⟨G.R, cG, Ga⟩ (hs bO l yv _ dn ah (hd ▸ B.J)) fun b bg IV Kh QR φ sY lZ => ?_
   have JI := Ga.qi sY
   cases b with
   | false =>
    exact ⟨_, fP, .mk (w := some yv) ⟨Hf.and sY, fun n p e => sY.aC.map n p (B.g n p e), lZ, JI, B1.wG sY.aC fun o e => sY.old _ o e (B.f I (.inl rfl)) (fun z => nomatch z), φ.1, gI sY,
     sY.old _ _ Ct (B.f D (.inr (.inl rfl))) (fun z => nomatch z), Gs.aC sY.aC, Nat.le_succ_of_le B.z, rfl, φ.2⟩⟩
   | true =>
    refine he f (s := { s with heap := IV, toks := Kh }) ⟨G.R, lZ, JI⟩ φ fun r iy φ E4 QZ tf r' F9 QG rr => ?_
    have Z := sY.and F9
    have GR := Z.old _ _ Ct (B.f D (.inr (.inl rfl))) (fun z => nomatch z)
    have Uo : i < l.length := (dX hy)
    refine wpAny_list_append_plain ⟨n, GR⟩ (fun O8 Cs Cg => ?_) (iw B.rs.size (Nat.le_trans B.z (Nat.le_trans (Nat.le_of_lt Uo) cQ)))
    obtain ⟨SY, Cs⟩ := Cs
    have GL : gW E4 D := .of GR (ke (by decide))
    have Dl : Xt [D] tf tf E4 O8 := .nc Cg (.head _) GL
    have fD := gI Z D (.inr (.inl rfl))
    exact ⟨_, fP, .mk (w := some yv) ⟨(Hf.and Z).fresh Dl Mu, fun n p e => Z.aC.map n p (B.g n p e), QG.nc Cg fD (hb Mu) GL, (JI.qi F9).J8 Dl (K8 (.inr rfl)),
     B1.wG (Z.aC.trans Dl.aC) fun o e => (Cg.2 _ PW).trans (Z.old _ o e (B.f I (.inl rfl)) (fun z => nomatch z)), φ.1, gI Z, Cs,
     by rw [Array.toList_push]; exact ((Gs.aC Z.aC).aC Dl.aC).append (.cons (rr.aC Dl.aC) .nil), by rw [List.length_append]; exact Nat.succ_le_succ B.z, rfl, φ.2⟩⟩
 exact codeAny_compStart_list dK (E1 (C := C.aW f) (s := { s with heap := mX, toks := Q0 + ([] : List (Str × Value)).length }) GG dK)
theorem s4.Np {D Cc : Addr} {aR : fm} {acc : List V} {aA : ag} {ys : Array Value} {n : Nat} {m : Str -> Option Value} (B : s4 C μ s Φ D Cc h' aR acc aA ys n m) (hb : C.bN.objs.size <= s.heap.objs.size) {eH : Heap} (hs : Heap.SameBut Cc h' eH) :
  SI C (aR ++ [(D, none)]) (aA ++ [.list acc]) eH /\ Xt [] μ (aR ++ [(D, none)]) s.heap eH /\ VR C.T (aR ++ [(D, none)]) eH (.ref aA.length) (.ref D) := by
 have Y := Xt.nc (μ := aR) (X := [Cc]) hs (.head _) (kz B.ns)
 have ax := B.S.nc hs B.fC (Nat.le_trans hb B.hC) (kz B.ns)
 have hf : ∀ a, (a = D \/ none = some a) -> a = D := fun a ha => ha.elim id fun e => nomatch e
 exact ⟨ax.add (p := (D, none)) (o := .list acc) (fun _ _ e => e) (fun a ha => hf a ha ▸ ⟨B.fD, Nat.le_trans hb B.hD⟩) (fun e => nomatch e) fun g => ⟨ys, n, (hs.2 _ B.ne).trans B.o, (B.rs.aC Y.aC).aC g, B.z, rfl⟩,
  (B.X.fresh Y B.hC).add (.add fun _ _ e => e) (fun _ _ e => e) (Nat.le_refl _) fun a ha => hf a ha ▸ B.hD, .ref (d := none) (B.S.len ▸ gT)⟩
theorem x6 (hi : pA C d c Λ iter xi) (O : dy Λ scope x k) (hc : ∀ f, tc (pF (C.aW f) d c (bD Λ scope.names x k)) ifs il) (he : ∀ f, b8 (C.aW f) d c (bD Λ scope.names x k) na xe) (hs : rS iter) :
  b8 C d c Λ (.ListComp na [⟨.Name x px, iter, ifs, 0⟩] scope pos) (.comp xe k xi il) := by
 intro A env μ σ ρ s Q EE Φ G w q
 rw [eval_ListComp]
 refine wpAny_comprehension_free (use := none) rfl (hs _) (pb (O.cells G.W)) O.kind O.names (qW (RR := fun acc Cc => compPost (model C.prog C.w) A EE none Q acc Cc) hi O hc he G w fun D Cc h' tk aR acc aA ys n m B => ⟨m, B.ns, fun eH Pe => ?_⟩)
 obtain ⟨cG, gV, r⟩ := B.Np G.S.dT Pe
 exact q _ _ B.φ eH tk _ (.ref D) gV cG r
theorem mN (hi : pA C d c Λ iter xi) (O : dy Λ scope x k) (hc : ∀ f, tc (pF (C.aW f) d c (bD Λ scope.names x k)) ifs il) (he : ∀ f, b8 (C.aW f) d c (bD Λ scope.names x k) na xe) (hs : rS iter)
  (hy : j1 Λ y j) (I5 : (py.line == pos.line) = true) (LU : (scope.names.any fun (n, k) => n == y && (k == .local || k == .cell)) = false) :
  gh C d c Λ (.Assign [.Name y py] (.ListComp na [⟨.Name x px, iter, ifs, 0⟩] scope pos) Kw) (.assign j (.comp xe k xi il)) := by
 intro A env μ σ ρ s Q EE Φ G w q
 have JW : swapsWith (.ListComp na [⟨.Name x px, iter, ifs, 0⟩] scope pos) (some (.Name y py)) Kw.line env = pure (Λ.names.lookup y == some .local) := by
  show (pure (env.blockKind == .function && env.kindOf y == some .local && py.line == pos.line && !(scope.names.any fun (n, k) => n == y && (k == .local || k == .cell))) : Sem Bool) = _
  rw [show env.blockKind = .function by unfold Env.blockKind; rw [G.W.kind]; rfl, G.W.kn, I5, LU, Bool.and_true, Bool.not_false, Bool.and_true]
  rfl
 obtain ⟨hy, hk⟩ := hy
 rcases hk with hk | hk
 ·rw [hk] at JW
  rw [exec_Assign_Name_used _ _ _ _ (JW : _ = pure true)]
  refine wpAny_bind (wpAny_standAt (wpAny_bind ?_))
  show wpAny _ A (do let _ <- comprehension (.ListComp na [⟨.Name x px, iter, ifs, 0⟩] scope pos) scope env _ (newList []) false (eval iter env) (some (assign (.Name y py) env))) _ _ s
  refine wpAny_bind (wpAny_mono (wpAny_comprehension_free (use := some (assign (.Name y py) env)) (Q := fun _ s' => Q .next s') rfl (hs _) (pb (O.cells G.W)) O.kind O.names
   (qW (RR := fun acc Cc => compPost (model C.prog C.w) A EE (some (assign (.Name y py) env)) (fun _ s' => Q .next s') acc Cc) hi O hc he G w fun D Cc h' tk aR acc aA ys n m B => ?_)) (fun _ s' hq => wpAny_pure (wpAny_pure hq)) fun _ _ e => e)
  obtain ⟨cG, gV, r⟩ := B.Np G.S.dT ⟨rfl, fun _ _ => rfl⟩
  show wpAny _ A (assign (.Name y py) env (.ref D)) _ _ _
  refine wpAny_assign_Name (iD (s := { s with heap := h', toks := tk }) cG (G.W.qi gV) hy (.inl hk) r fun uG ql Ae j0 vw => ?_)
  have GU : Cc ∉ own env := G.W.x8 B.hC
  have RM : Cc ∉ foot (aR ++ [(D, none)]) := fun z => by
   rw [kR] at z
   exact (List.mem_append.mp z).elim B.fC fun z => B.ne (List.mem_singleton.mp z).symm
  have BG : uG.Ns Cc m := B.ns.at' fun o e => Ae.old _ o e RM GU
  refine ⟨m, BG, fun IV GN => ?_⟩
  have Y := Xt.nc (μ := aR ++ [(D, none)]) (X := [Cc]) GN (.head _) (kz BG)
  exact q .next _ _ IV ql _ .next B.φ ((gV.and Ae).fresh Y B.hC) (j0.nc GN RM (Nat.le_trans G.S.dT B.hC) (kz BG)) (vw.J8 Y GU) .next
 ·rw [hk] at JW
  exact wpAny_Assign_Name (x6 hi O hc he hs G w fun _ _ φ _ _ aR _ X S rv => iD S (G.W.qi X) hy (.inr hk) rv fun h' tk X' S' W' => q .next _ _ h' tk aR .next φ (X.and X') S' W' .next) JW
end
end
variable {ns : List Str}
section
noncomputable def qJ (acc : List (Str × Value)) (p : Str × Value) : List (Str × Value) := if (acc.lookup p.1).isNone then acc ++ [p] else acc
noncomputable def uT (acc l : List (Str × Value)) : List (Str × Value) := l.foldl qJ acc
section
variable {x : Str} {l r acc : List (Str × Value)} {p : Str × Value} {vs ds : List Value} {v : Value}
theorem od : (l ++ r).lookup x = (l.lookup x).or (r.lookup x) := by
 induction l with
 | nil => rfl
 | cons p l ih =>
  rw [List.cons_append, bQ, bQ]
  by_cases e : x = p.1
  ·rw [if_pos e, if_pos e]; rfl
  ·rw [if_neg e, if_neg e]; exact ih
theorem sL : (qJ acc p).lookup x = (acc.lookup x).or ([p].lookup x) := by
 unfold qJ
 cases h : acc.lookup p.1 with
 | none => exact od
 | some w =>
  show acc.lookup x = _
  rw [bQ]
  by_cases e : x = p.1
  ·rw [e, h]; rfl
  ·rw [if_neg e]; exact (Option.or_none).symm
theorem sJ : (uT acc l).lookup x = (acc.lookup x).or (l.lookup x) := by
 induction l generalizing acc with
 | nil => exact Option.or_none.symm
 | cons p l ih =>
  show (uT (qJ acc p) l).lookup x = _
  rw [ih, sL, show (p :: l) = [p] ++ l from rfl, od, Option.or_assoc]
theorem jO (nd : ns.Nodup) (h1 : ns[i]? = some x) : (ns.zip vs).lookup x = vs[i]? := by
 induction ns generalizing vs i with
 | nil => cases h1
 | cons n ns ih =>
  obtain ⟨a, b⟩ := List.nodup_cons.mp nd
  cases vs with
  | nil => rfl
  | cons w vs =>
   rw [List.zip_cons_cons, bQ]
   cases i with
   | zero => rw [if_pos (Option.some.inj h1).symm]; rfl
   | succ i =>
    have h1 : ns[i]? = some x := h1
    rw [if_neg fun e : x = n => a (e ▸ List.mem_of_getElem? h1)]
    exact ih b h1
theorem qb {f : Str -> Option Value} (hl : ns.length = vs.length) (k : ∀ (i : Nat) x, ns[i]? = some x -> f x = vs[i]?) : (ns.filterMap fun n => (f n).map (n, ·)) = ns.zip vs := by
 induction ns generalizing vs with
 | nil => rfl
 | cons n ns ih =>
  cases vs with
  | nil => cases hl
  | cons v vs =>
   have e : f n = some v := k 0 n rfl
   rw [List.filterMap_cons, e]
   exact congrArg _ (ih (Nat.succ.inj hl) fun i x h1 => k (i + 1) x h1)
theorem CH (nd : ns.Nodup) (h1 : vs.length <= ns.length) (h2 : ds.length <= ns.length) (h3 : ns.length <= vs.length + ds.length) :
  (ns.filterMap fun n => ((uT (ns.zip vs) ((ns.drop (ns.length - ds.length)).zip ds)).lookup n).map (n, ·)) = ns.zip (vs ++ ds.drop (ds.length - (ns.length - vs.length))) := by
 refine qb (by rw [List.length_append, List.length_drop]; lia) fun i x hx => ?_
 rw [sJ, jO nd hx]
 by_cases q : i < vs.length
 ·rw [List.getElem?_append_left q, List.getElem?_eq_getElem q]; rfl
 ·have hl : i < ns.length := (dX hx)
  rw [List.getElem?_append_right (Nat.not_lt.mp q), List.getElem?_drop, List.getElem?_eq_none (Nat.not_lt.mp q)]
  have IW : (ns.drop (ns.length - ds.length))[i - (ns.length - ds.length)]? = some x := by
   rw [List.getElem?_drop, show ns.length - ds.length + (i - (ns.length - ds.length)) = i by lia]; exact hx
  refine (jO (nd.sublist (List.drop_sublist _ _)) IW).trans (congrArg _ ?_)
  lia
theorem xq {F : Str × Value -> List (Str × Value) -> Sem (ForInStep (List (Str × Value)))} (hF : ∀ p acc, F p acc = pure (.yield (qJ acc p))) : forIn l acc F = pure (uT acc l) := by
 induction l generalizing acc with
 | nil => rfl
 | cons p l ih => rw [List.forIn_cons, hF]; exact ih
end
structure sZ (p : Arguments) (ns : List Str) : Prop where
 po : p.posonlyargs = []
 ko : p.kwonlyargs = []
 va : p.vararg = none
 kw : p.kwarg = none
 eq : p.args.map (·.arg) = ns
 nd : ns.Nodup
theorem sZ.lit {p : Arguments} {ns : List Str} (L : sZ p ns) : p = ⟨[], p.args, none, [], p.kw_defaults, none, p.defaults⟩ := by
 obtain ⟨a, b, c, d, e, f, g⟩ := p
 have h1 : a = [] := L.po
 have h2 : d = [] := L.ko
 have h3 : c = none := L.va
 have h4 : f = none := L.kw
 subst h1 h2 h3 h4; rfl
theorem zO {fd : FuncData} {p : Arguments} (h : fd.params = p) : fd = { fd with params := p } := by
 cases fd; cases h; rfl
theorem Au {M : Model} {A : Around} {α : Type} {Q : α -> Shared -> Prop} {E : Value -> Shared -> Prop} {s : Shared} {c : Prop} [Decidable c] {a b : Sem α} (h : ¬c) (q : wpAny M A b Q E s) : wpAny M A (if c then a else b) Q E s := by rw [if_neg h]; exact q
theorem Ka {M : Model} {A : Around} {α : Type} {Q : α -> Shared -> Prop} {E : Value -> Shared -> Prop} {s : Shared} {x y : Sem α} (h : x = y) (q : wpAny M A y Q E s) : wpAny M A x Q E s := h ▸ q
theorem C5 {fd : FuncData} {ns : List Str} {vs ds : List Value} {s : Shared} (L : sZ fd.params ns) (h1 : vs.length <= ns.length) (h2 : ds.length <= ns.length) (h3 : ns.length <= vs.length + ds.length)
  (hd : ∀ (M : Model) (A : Around) (E : Value -> Shared -> Prop) (Q : Option (Array Value) -> Shared -> Prop), (∀ o : Option (Array Value), (o.getD #[]).toList = ds -> Q o s) -> wpAny M A (seqItems? fd.defaults) Q E s) :
  BindsTo s fd ⟨vs, []⟩ (ns.zip (vs ++ ds.drop (ds.length - (ns.length - vs.length)))) := by
 rw [zO L.lit]
 intro M A E Q q
 have le := L.eq
 have e2 : List.filter (fun n => (List.lookup n (ns.zip vs)).isNone) (List.take (ns.length - ds.length) ns) = [] := by
  rw [List.filter_eq_nil_iff]
  intro n hn
  obtain ⟨i, hi⟩ := List.mem_iff_getElem?.mp hn
  rw [List.getElem?_take] at hi
  split at hi
  ·rw [jO L.nd hi, List.getElem?_eq_getElem (by lia)]; exact Bool.false_ne_true
  ·cases hi
 refine wpAny_bind (wpAny_pure ?_)
 refine wpAny_bind (hd M A E _ fun o ho => ?_)
 generalize hX : fd.params.args.map (·.arg) = X
 rw [hX] at le
 subst le
 generalize hD : (o.getD #[]).toList = D
 rw [hD] at ho
 subst ho
 have d0 : D.drop (D.length - X.length) = D := by rw [Nat.sub_eq_zero_of_le h2]; rfl
 refine Au (show ¬(decide (vs.length > X.length) && true) = true from fun h => absurd (of_decide_eq_true ((Bool.and_eq_true_iff.mp h).1)) (Nat.not_lt.mpr h1)) ?_
 refine Au (show ¬(!((X.take (X.length - (D.drop (D.length - X.length)).length)).filter fun n => ((X.zip vs).lookup n).isNone).isEmpty) = true from by rw [d0, e2]; exact Bool.false_ne_true) ?_
 refine wpAny_bind (Ka (xq fun p acc => show (if (acc.lookup p.1).isNone = true then _ else _) = _ from by unfold qJ; split <;> rfl) (wpAny_pure ?_))
 refine wpAny_bind (wpAny_pure ?_)
 refine Au (show ¬(!([] : List Str).isEmpty) = true from Bool.false_ne_true) ?_
 refine wpAny_pure ?_
 have g : (X ++ []).filterMap (fun n => ((uT (X.zip vs) ((X.drop (X.length - (D.drop (D.length - X.length)).length)).zip (D.drop (D.length - X.length)))).lookup n).map (n, ·)) = X.zip (vs ++ D.drop (D.length - (X.length - vs.length))) := by
  rw [List.append_nil, d0]; exact CH L.nd h1 h2 h3
 exact Eq.mpr (congrArg (Q · s) g) q
section
variable {β : Type} {n : Nat} {y x : Str} {l : List (Str × Value)} {m : Str -> Option Value} {kd : Str -> Option NameKind} {v : Value}
theorem pe {k : NameKind} : cellsFrom n ((y, k) :: names) acc = if (k == .cell) = true then cellsFrom (n + 1) names ((y, n) :: acc) else cellsFrom n names acc := by
 rw [cellsFrom]
theorem vf : ∀ {n acc}, (names.map (·.1)).Nodup -> (acc.map (·.1)).Nodup -> (∀ y ∈ acc.map (·.1), y ∉ names.map (·.1)) -> ((cellsFrom n names acc).map (·.1)).Nodup := by
 induction names with
 | nil => exact fun _ h _ => h
 | cons p r ih =>
  obtain ⟨z, k⟩ := p
  intro n acc h1 h2 h3
  obtain ⟨a, b⟩ := List.nodup_cons.mp h1
  rw [pe]
  split
  ·refine ih b (List.nodup_cons.mpr ⟨fun q => h3 z q (.head _), h2⟩) fun y hy => ?_
   rcases List.mem_cons.mp hy with e | hy
   ·exact e ▸ a
   ·exact fun q => h3 y hy (.tail _ q)
  ·exact ih b h2 fun y hy q => h3 y hy (.tail _ q)
theorem zZ : ∀ {n acc}, (y, NameKind.cell) ∈ names \/ y ∈ acc.map (·.1) -> y ∈ (cellsFrom n names acc).map (·.1) := by
 induction names with
 | nil => exact fun h => h.elim (fun h => nomatch h) id
 | cons p r ih =>
  obtain ⟨z, k⟩ := p
  intro n acc h
  rw [pe]
  cases k with
  | cell => exact ih (h.elim (fun h => (List.mem_cons.mp h).elim (fun e => .inr ((Prod.mk.inj e).1 ▸ List.Mem.head _)) .inl) fun h => .inr (.tail _ h))
  | _ => exact ih (h.imp (fun h => (List.mem_cons.mp h).elim (fun e => NameKind.noConfusion (Prod.mk.inj e).2) id) id)
theorem pJ {c : β} {l : List (Str × β)} (nd : (l.map (·.1)).Nodup) (h : (y, c) ∈ l) : l.lookup y = some c := by
 induction l with
 | nil => cases h
 | cons p r ih =>
  obtain ⟨a, b⟩ := List.nodup_cons.mp nd
  rw [bQ]
  rcases List.mem_cons.mp h with q | q
  ·rw [if_pos (congrArg Prod.fst q), <- q]
  ·rw [if_neg fun e : y = p.1 => a (List.mem_map.mpr ⟨_, q, e⟩)]; exact ih b q
theorem vh : ∀ {m}, x ∉ l.map (·.1) -> bindL kd l m x = m x := by
 induction l with
 | nil => exact fun _ => rfl
 | cons p r ih =>
  intro m h
  unfold bindL
  rw [ih fun q => h (.tail _ q)]
  split
  ·exact if_neg fun e : x = p.1 => h (e ▸ .head _)
  ·rfl
theorem vi : ∀ {m}, x ∉ l.map (·.1) -> bindC kd l m x = m x := by
 induction l with
 | nil => exact fun _ => rfl
 | cons p r ih =>
  intro m h
  unfold bindC
  rw [ih fun q => h (.tail _ q)]
  split
  ·rfl
  ·exact if_neg fun e : x = p.1 => h (e ▸ .head _)
theorem C6 (hk : kd x = some .local) : ∀ {m}, (l.map (·.1)).Nodup -> (x, v) ∈ l -> bindL kd l m x = some v := by
 induction l with
 | nil => exact fun _ h => nomatch h
 | cons p r ih =>
  intro m h hm
  obtain ⟨a, b⟩ := List.nodup_cons.mp h
  unfold bindL
  rcases List.mem_cons.mp hm with q | q
  ·subst q; rw [vh a, if_pos hk]; exact if_pos rfl
  ·exact ih b q
theorem C7 (hk : kd x ≠ some .local) : ∀ {m}, (l.map (·.1)).Nodup -> (x, v) ∈ l -> bindC kd l m x = some v := by
 induction l with
 | nil => exact fun _ h => nomatch h
 | cons p r ih =>
  intro m h hm
  obtain ⟨a, b⟩ := List.nodup_cons.mp h
  unfold bindC
  rcases List.mem_cons.mp hm with q | q
  ·subst q; rw [vi a, if_neg hk]; exact if_pos rfl
  ·exact ih b q
end
end
section
structure Ai (C : Cx) (f : Nat) (fd : aL) (D : FuncData) (ob : Obj) (body : List Stmt) (Λ : Sc) (ns : List Str) : Prop where
 lO : C.K.lookup (C.dB f) = some ob
 data : ob.data = .func D
 co : D.scope.isCoroutine = false
 gen : D.scope.isGenerator = false
 body : D.body = .stmts body
 code : codeIn C.K D.code D.qualname = true
 kind : D.scope.kind = .function
 aq : D.globals = mainGlobals
 blt : D.builtins = builtinsNs
 Se : D.closure = []
 names : D.scope.names = Λ.names
 rM : sZ D.params ns
 rJ : ns.length = fd.cX
 wd : ∀ (i : Nat) x, ns[i]? = some x -> Λ.cL.lookup x = some i
 Sa : (D.defaults = .none /\ fd.bk = []) \/ (∃ T o bx n, D.defaults = .ref T /\ C.K.lookup T = some o /\ o.data = .seq bx n /\ eQ C.T [] C.bN fd.bk bx.toList)
 FA : fd.bk.length <= fd.cX
 slots : ∀ x y k, Λ.cL.lookup x = some k -> Λ.cL.lookup y = some k -> x = y
 yl : ∀ x k, Λ.cL.lookup x = some k -> Λ.names.lookup x = some .local \/ Λ.names.lookup x = some .cell
 nodup : (Λ.names.map (·.1)).Nodup
theorem pK {β : Type} {y : Str} {l : List (Str × β)} (h : y ∈ l.map (·.1)) : ∃ c, l.lookup y = some c := by
 obtain ⟨⟨z, c⟩, hm, rfl⟩ := List.mem_map.mp h
 exact du hm
section
variable {d f : Nat} {fd : aL} {D : FuncData} {body : List Stmt} {args as : List V} {vs : List Value}
theorem Ai.Jz (F : Ai C f fd D ob body Λ ns) {y : Str} {n : Nat} (hy : Λ.names.lookup y = some .cell) : ∃ c, (cellsFrom n D.scope.names []).lookup y = some c := by
 rw [F.names]; exact pK (zZ (.inl (bI hy)))
theorem Ai.env (F : Ai C f fd D ob body Λ ns) {env : PySem.Env} {Ci : Heap} {n m : Nat} {cm : Str -> Option Value} {mm : Str -> Option Value} (S : SI C μ σ s.heap) (hb : ∀ a ∈ own env, s.heap.objs.size <= a) (kp : ∀ b o, s.heap.get? b = some o -> Ci.get? b = some o)
  (hk : env.scope = D.scope) (hg : env.globals = D.globals) (PJ : env.builtins = D.builtins) (NA : env.cells = cellsFrom n D.scope.names []) (NH : ∀ x y c, env.cells.lookup x = some c -> env.cells.lookup y = some c -> x = y)
  (ul : us.length = as.length) (al : as.length = fd.cX) (zi : eQ C.T μ s.heap as us) (JX : Ci.Ns env.locals (bindL env.kindOf (ns.zip us) mm)) (Co : ∀ y c, env.cells.lookup y = some c -> Ci.IsCell c (bindC env.kindOf (ns.zip us) cm y)) :
  a4 C Λ env μ Ci (as.map some ++ List.replicate m none) := by
 have kn : ∀ y, env.kindOf y = Λ.names.lookup y := fun y => by unfold Env.kindOf; rw [hk, F.names]
 have bC : (ns.zip us).map (·.1) = ns := by rw [List.map_fst_zip]; rw [ul, al, F.rJ]; exact Nat.le_refl _
 have Rg : ((ns.zip us).map (·.1)).Nodup := by rw [bC]; exact F.rM.nd
 have S5 : (env.cells.map (·.1)).Nodup := by rw [NA, F.names]; exact vf F.nodup .nil fun y hy => nomatch hy
 exact {
  kind := hk ▸ F.kind
  kn := kn
  aq := hg ▸ F.aq
  blt := PJ ▸ F.blt
  aa := ⟨_, JX⟩
  yM := fun x c hc => ⟨_, Co x c (pJ S5 hc)⟩
  gI := fun a ha => ⟨fun q => absurd (S.hU q) (Nat.not_lt.mpr (hb a ha)), Nat.le_trans S.dT (hb a ha)⟩
  inj := NH
  has := fun x j hx hc => by
   rcases F.yl x j hx with q | q
   ·rw [q] at hc; rcases hc with e | e <;> cases e
   ·rw [NA]; exact F.Jz q
  slots := F.slots
  gj := fun x j v hx hv => by
   have hj : j < as.length := by
    rcases Nat.lt_or_ge j as.length with q | q
    ·exact q
    ·rw [List.getElem?_append_right (by rw [List.length_map]; exact q), List.getElem?_replicate] at hv
     split at hv <;> cases hv
   rw [List.getElem?_append_left (by rw [List.length_map]; exact hj), List.getElem?_map] at hv
   obtain ⟨w, hw, e⟩ := Option.map_eq_some_iff.mp hv
   cases e
   obtain ⟨v', hu, rv⟩ := zi.get hw
   obtain ⟨y, hy⟩ : ∃ y, ns[j]? = some y := ⟨_, List.getElem?_eq_getElem (by rw [F.rJ, <- al]; exact hj)⟩
   have UX : y = x := F.slots y x j (F.wd j y hy) hx
   subst UX
   have jW : (y, v') ∈ ns.zip us := List.mem_of_getElem? (i := j) (List.getElem?_zip_eq_some.mpr ⟨hy, hu⟩)
   refine ⟨v', rv.aC (.keep kp), ?_⟩
   rcases F.yl y j hx with q | q
   ·exact .aa q JX (C6 (by rw [kn]; exact q) Rg jW)
   ·obtain ⟨c, hc⟩ := F.Jz (n := n) q
    rw [<- NA] at hc
    exact .cell (.inl q) hc (C7 (kd := env.kindOf) (m := cm) (by rw [kn, q]; exact fun e => nomatch e) Rg jW ▸ Co y c hc) }
theorem Fp {R : Result -> Shared -> Prop} {Φ : PQ} (F : Ai C f fd D ob body Λ ns) (B : pz C d (cl d) Λ body fd.body) (hf : PR.zN[f]? = some fd) (w : Nn (d + 1) f args σ Φ) (Rm : vz (d + 1) A) (S : SI C μ σ s.heap) (rs : eQ C.T μ s.heap args vs)
  (q : jo C μ s Φ fun v s' => R (.ok (.ret v)) s') : codeAny (model C.prog C.w) A (.call (.ref (C.dB f)) ⟨vs, []⟩) R s := by
 have K := C.hK.keeps S.keep
 have w : (match PR.zN[f]? with | none => False | some fd => let vs := args ++ fd.bk.drop (fd.bk.length - (fd.cX - args.length)); vs.length = fd.cX /\ wX (cl d) fd.body (vs.map some ++ List.replicate (fd.n4 - fd.cX) none) σ (a6 Φ)) := w
 rw [hf] at w
 obtain ⟨cQ, w⟩ := w
 have QA : vs.length = args.length := rs.length
 obtain ⟨ds, rd, hd⟩ : ∃ ds, eQ C.T μ s.heap fd.bk ds /\ ∀ (M : Model) (A : Around) (E : Value -> Shared -> Prop) (Q : Option (Array Value) -> Shared -> Prop), (∀ o : Option (Array Value), (o.getD #[]).toList = ds -> Q o s) -> wpAny M A (seqItems? D.defaults) Q E s := by
  rcases F.Sa with ⟨e1, e2⟩ | ⟨T, o, bx, n, e1, e2, e3, e4⟩
  ·exact ⟨[], e2 ▸ .nil, fun M A E Q q => by rw [e1]; exact wpAny_bind (wpAny_pure (wpAny_pure (q none rfl)))⟩
  ·exact ⟨bx.toList, e4.imp fun _ _ r => VR.up S r, fun M A E Q q => by rw [e1]; exact wpAny_seqItems (K _ _ e2) e3 (q (some bx) rfl)⟩
 have FA : ds.length = fd.bk.length := rd.length
 have GP := F.FA
 have DF := F.rJ
 have hl : args.length + (fd.bk.length - (fd.bk.length - (fd.cX - args.length))) = fd.cX := by rw [<- List.length_drop, <- List.length_append]; exact cQ
 have bo := C5 (s := s) (vs := vs) F.rM (by lia) (by lia) (by lia) hd
 have zi : eQ C.T μ s.heap (args ++ fd.bk.drop (fd.bk.length - (fd.cX - args.length))) (vs ++ ds.drop (ds.length - (ns.length - vs.length))) := by rw [FA, DF, QA]; exact rs.append (rd.drop _)
 generalize vs ++ ds.drop (ds.length - (ns.length - vs.length)) = us at bo zi
 generalize args ++ fd.bk.drop (fd.bk.length - (fd.cX - args.length)) = as at w zi cQ
 refine codeAny_call_function (by have := Rm.MP; lia) (K _ _ F.lO) F.data F.co F.gen F.body (codeRec_of K F.code) (bo _ _ _ _ ?_)
 rw [F.Se]
 refine wpAny_newFunctionEnv_cells F.kind (fun x hx => ?_) fun env Fe s' I => ?_
 ·obtain ⟨i, hi⟩ := List.mem_iff_getElem?.mp (List.of_mem_zip (a := x.1) (b := x.2) hx).1
  rcases F.yl _ _ (F.wd i x.1 hi) with q | q
  ·exact .inl (F.names ▸ q)
  ·obtain ⟨c, hc⟩ := F.Jz q
   exact .inr ⟨F.names ▸ q, by rw [hc]; rfl⟩
 have jm : s.heap.objs.size <= env.locals := I.toInCall.fresh
 have fP : env.locals < s'.heap.objs.size := I.toInCall.ns.lt
 obtain ⟨Ci, vG, rfl⟩ := I.toInCall.same
 have kp : ∀ b o, s.heap.get? b = some o -> Ci.get? b = some o := I.toInCall.keep
 refine ⟨(C.LX.keeps S.keep).keeps kp, codeAny_func ?_⟩
 have gX : ∀ a ∈ own env, s.heap.objs.size <= a := fun a ha => by
  rcases List.mem_cons.mp ha with rfl | ha
  ·exact jm
  ·obtain ⟨⟨y, c⟩, hy, rfl⟩ := List.mem_map.mp ha
   exact Nat.le_of_lt (Nat.lt_of_le_of_lt jm (I.above y c hy))
 have W := F.env (m := fd.n4 - fd.cX) S gX kp (by rw [Fe]; rfl) (by rw [Fe]; rfl) (by rw [Fe]; rfl) (by rw [Fe]; rfl) (fun x y c hx hy => name_of_addr I.apart (bI hx) (bI hy)) zi.length cQ zi I.toInCall.ns I.cell
 refine B (A := A.deeper env) (s := { s with heap := Ci, toks := vG }) ⟨⟨Rm.hh, ?_, ?_⟩, S.gN kp, W⟩ w fun fl ρ ab eH tB c7 VH φ X l5 N5 r => ?_
 ·show A.depth + 1 + 3 * d + 20 <= recursionLimit
  have := Rm.MP; lia
 ·show A.units + 3 + 40 * d + 200 <= cLine
  have := Rm.un; lia
 have X1 : Xt [] μ c7 s.heap eH := (Xt.keep (X := []) kp (Nat.le_trans jm (Nat.le_of_lt fP))).trans X (fun _ h => nomatch h) fun b hb => .inr (gX b hb)
 cases r with
 | ret r => exact q _ _ φ eH tB c7 _ X1 l5 r
 | next => exact q _ _ φ eH tB c7 _ X1 l5 .none
 | cont => exact φ.elim
end
end
section
theorem Em {C : Cx} {d : Nat} {c : Cl} {Λ : Sc} {x : Str} {kvs : List (Int × V)} {p pos : Pos} {e : Expr} {ex : E} {k : Nat} (G : GD C x kvs) (h : b8 C d c Λ e ex) (hx : Λ.names.lookup x = some .globalImplicit) (hd : (x == ("__debug__" : Str)) = false) :
  pF C d c Λ (.Compare e [.In] [.Name x p] pos) (.NP k kvs ex) := fun W w q =>
 wpAny_isTrue_Compare1 (h W w fun v ab φ _ _ _ v' X S rv => by
  obtain ⟨a, l, G⟩ := G
  cases rv with
  | int i t =>
   refine fq (W.on X S) G.mg hx hd (wpAny_in_of rX G.vH (G.d.keep S.keep).mapOf ?_)
   have ev : (valueAt l (.int i)).isSome = (kvs.lookup i).isSome := by rcases G.at S i with ⟨h1, h2⟩ | ⟨_, _, h1, h2, _⟩ <;> rw [h1, h2] <;> rfl
   rw [ev]
   exact wpAny_truthy_bool (q.bool X S φ)
  | _ => exact φ.elim) rfl
noncomputable def rT : List Nat -> List Nat -> Bool
 | [], b => b.isEmpty
 | x :: r, b => (match b with | y :: q => Nat.beq x y && rT r q | [] => false)
theorem a1 {a b : Bool} (h : (a && b) = true) : a = true := (Bool.and_eq_true_iff.mp h).1
theorem a2 {a b : Bool} (h : (a && b) = true) : b = true := (Bool.and_eq_true_iff.mp h).2
theorem n1 {a : Bool} (h : (!a) = true) : a = false := by cases a <;> first | rfl | cases h
theorem zt {a : List Nat} : ∀ {b}, rT a b = true -> a = b := by
 induction a with
 | nil => exact fun h => (List.isEmpty_iff.mp h).symm
 | cons x r ih =>
  intro b h
  cases b with
  | nil => cases h
  | cons y q => rw [Nat.eq_of_beq_eq_true (a1 h), ih (a2 h)]
theorem jN {a : List Nat} : rT a a = true := by
 induction a with
 | nil => rfl
 | cons x r ih => exact Bool.and_eq_true_iff.mpr ⟨Nat.beq_refl x, ih⟩
noncomputable def same (a b : Str) : Bool := rT a.cps.toList b.cps.toList
theorem cA {a b : Str} (h : same a b = true) : a = b := by
 have := Array.toList_inj.mp (zt h)
 cases a; cases b
 exact congrArg _ this
theorem nk {a b : Str} (h : (!same a b) = true) : (a == b) = false := beq_eq_false_iff_ne.mpr fun e => by
 subst e
 exact Bool.false_ne_true ((n1 h).symm.trans jN)
noncomputable def lk {β : Type} (x : Str) : List (Str × β) -> Option β
 | [] => none
 | p :: r => cond (same x p.1) (some p.2) (lk x r)
theorem BQ {β : Type} {x : Str} {l : List (Str × β)} : lk x l = l.lookup x := by
 induction l with
 | nil => rfl
 | cons p r ih =>
  show cond (same x p.1) (some p.2) (lk x r) = _
  rw [bQ, ih]
  cases h : same x p.1 with
  | true => rw [if_pos (cA h)]; rfl
  | false => rw [if_neg fun e : x = p.1 => Bool.false_ne_true (h.symm.trans (e ▸ jN : same x p.1 = true))]; rfl
structure Tb where
 nm : Nat -> Str
 len : Nat
 gf : Nat -> Option Nat
 gc : Nat -> Option Nat
 gv : Nat -> Option V
 gd : Nat -> Option (List (Int × V))
 ar : Nat -> Bool
structure fN (t : Tb) (C : Cx) (d : Nat) (c : Cl) : Prop where
 nm : t.nm = C.T.nm
 len : t.len = C.T.len
 gf : ∀ f k, t.gf f = some k -> C.mg (t.nm k) = some (.ref (C.dB f)) /\ keepIn C.K (.ref (C.dB f)) = true
 gc : ∀ c k, t.gc c = some k -> c < C.g9 /\ yU C c /\ C.mg (t.nm k) = some (.ref (C.bY c))
 gv : ∀ k v, t.gv k = some v -> QL C (t.nm k) v
 gd : ∀ k kvs, t.gd k = some kvs -> GD C (t.nm k) kvs
 ar : ∀ a, t.ar a = true -> a ∈ C.mK
 bf : ∀ b, C.mg (hY b) = none
 pH : C.mg "range" = none
 cls : ∀ c < C.g9, mM C c
 aM : ∀ c < C.g9, ∀ m f, PR.aM c m = some f -> xG C c m f
 names : nG C
 call : ∀ f, eX (C.aW f) d c
theorem j3.aW {C : Cx} {k : Nat} {i : Option (Option Nat)} {f : Addr -> Option Obj} (I : j3 C k i) : j3 (C.aW f) k i := by
 cases I with
 | own h t => exact .own h t
 | obj h => exact .obj h
theorem fN.at' {t : Tb} {C : Cx} {d : Nat} {c : Cl} (H : fN t C d c) (f : Addr -> Option Obj) : fN t (C.aW f) d c :=
 ⟨H.nm, H.len, H.gf, fun c k e => let ⟨a, b, c⟩ := H.gc c k e; ⟨a, ⟨b.makes, b.keep, b.cn.aW⟩, c⟩, H.gv, fun k kvs e => let ⟨a, l, G⟩ := H.gd k kvs e; ⟨a, l, G.mg, G.d, G.en, G.vH⟩, H.ar, H.bf, H.pH,
  fun c hc => let x := H.cls c hc; ⟨x.P7, x.ga, x.sa, x.over, x.dict, x.plain⟩, fun c hc m f e => let x := H.aM c hc m f e; ⟨x.Fv, x.QY, x.keep⟩, ⟨H.names.append, H.names.H6, H.names.iV, H.names.get⟩, fun g => H.call g⟩
noncomputable def nU : Str := "__debug__"
noncomputable def nV : Str := "__classdict__"
noncomputable def KR : Str := "get"
noncomputable def vZ : Str := "range"
noncomputable def B4 (x : Str) (l : List (Str × NameKind)) (k : NameKind) : Bool := decide (lk x l = some k)
noncomputable def JU (x : Str) (l : List (Str × Nat)) (k : Nat) : Bool := (lk x l).any fun j => Nat.beq j k
noncomputable def RP (Λ : Sc) (x : Str) : Bool := B4 x Λ.names .globalImplicit && !same x nU
noncomputable def aa (Λ : Sc) (x : Str) (k : Nat) : Bool := JU x Λ.cL k && (B4 x Λ.names .local || B4 x Λ.names .cell)
theorem gu {x : Str} {l : List (Str × NameKind)} {k : NameKind} (h : B4 x l k = true) : l.lookup x = some k := BQ.symm.trans (of_decide_eq_true h)
theorem wK {x : Str} {l : List (Str × Nat)} {k : Nat} (h : JU x l k = true) : l.lookup x = some k := by
 rw [<- BQ]
 unfold JU at h
 cases e : lk x l with
 | none => rw [e] at h; cases h
 | some j => rw [e] at h; rw [Nat.eq_of_beq_eq_true h]
theorem wI {Λ : Sc} {x : Str} {k : Nat} (h : aa Λ x k = true) : j1 Λ x k := ⟨wK (a1 h), (Bool.or_eq_true_iff.mp (a2 h)).imp gu gu⟩
noncomputable def o9 (Λ : Sc) (scope : Scope) (x : Str) (k : Nat) : Bool :=
 decide (scope.kind = .function) && B4 x scope.names .local && scope.names.all fun y => match y.2 with
  | .cell => false
  | .local => B4 y.1 scope.names .local
  | .free => B4 y.1 scope.names .free && (lk y.1 Λ.cL).any (fun j => !Nat.beq j k) && (B4 y.1 Λ.names .cell || B4 y.1 Λ.names .free)
  | _ => true
theorem qX {Λ : Sc} {scope : Scope} {x : Str} {k : Nat} (h : o9 Λ scope x k = true) : dy Λ scope x k := by
 have h3 := List.all_eq_true.mp (a2 h)
 refine ⟨of_decide_eq_true (a1 (a1 h)), fun y hy e => ?_, fun y hy e => ?_, gu (a2 (a1 h)), fun n hn => ?_⟩
 ·have := h3 y hy; rw [e] at this; cases this
 ·have := h3 y hy; rw [e] at this; exact gu this
 ·have h := h3 _ hn
  refine ⟨gu (a1 (a1 h)), ?_⟩
  have hj := a2 (a1 h)
  rw [BQ] at hj
  cases e : Λ.cL.lookup n with
  | none => rw [show Λ.cL.lookup (n, NameKind.free).1 = none from e] at hj; cases hj
  | some j =>
   rw [show Λ.cL.lookup (n, NameKind.free).1 = some j from e] at hj
   exact ⟨j, rfl, (fun q => Bool.false_ne_true ((n1 hj).symm.trans (q ▸ Nat.beq_refl _))), (Bool.or_eq_true_iff.mp (a2 h)).imp gu gu⟩
structure Si where
 c : Const := .none
 n : Nat := 0
 x : Str := nU
 uo : UnaryOp := .Not
 bo : Operator := .Add
 co : List CmpOp := []
 lo : BoolOp := .And
 e1 : Expr
 e2 : Expr
 e3 : Expr
 es : List Expr := []
 ks : List (Option Expr) := []
 kw : List Keyword := []
 o1 : Option Expr := none
 o2 : Option Expr := none
 o3 : Option Expr := none
 gs : List Comprehension := []
 sc : Option Scope := none
structure Vw where
 k : Nat
 f : Si
noncomputable def dY (e : Expr) : Vw := match e with
 | .Constant c n _ => ⟨1, { c := c, n := n, e1 := e, e2 := e, e3 := e }⟩
 | .Name x _ => ⟨2, { x := x, e1 := e, e2 := e, e3 := e }⟩
 | .UnaryOp o a _ => ⟨3, { uo := o, e1 := a, e2 := e, e3 := e }⟩
 | .BinOp l o r _ => ⟨4, { bo := o, e1 := l, e2 := r, e3 := e }⟩
 | .Compare l os rs _ => ⟨5, { co := os, e1 := l, es := rs, e2 := e, e3 := e }⟩
 | .BoolOp o es _ => ⟨6, { lo := o, es := es, e1 := e, e2 := e, e3 := e }⟩
 | .IfExp a b c _ => ⟨7, { e1 := a, e2 := b, e3 := c }⟩
 | .Tuple es n _ => ⟨8, { es := es, n := n, e1 := e, e2 := e, e3 := e }⟩
 | .List es _ => ⟨9, { es := es, e1 := e, e2 := e, e3 := e }⟩
 | .Dict ks vs _ => ⟨10, { ks := ks, es := vs, e1 := e, e2 := e, e3 := e }⟩
 | .Attribute a n _ => ⟨11, { e1 := a, x := n, e2 := e, e3 := e }⟩
 | .Subscript a b _ => ⟨12, { e1 := a, e2 := b, e3 := e }⟩
 | .Slice a b c _ => ⟨13, { o1 := a, o2 := b, o3 := c, e1 := e, e2 := e, e3 := e }⟩
 | .Call f es ks _ => ⟨14, { e1 := f, es := es, kw := ks, e2 := e, e3 := e }⟩
 | .ListComp a gs s _ => ⟨15, { e1 := a, gs := gs, sc := some s, e2 := e, e3 := e }⟩
 | .Set .. => ⟨16, { e1 := e, e2 := e, e3 := e }⟩
 | .SetComp .. => ⟨17, { e1 := e, e2 := e, e3 := e }⟩
 | .DictComp .. => ⟨17, { e1 := e, e2 := e, e3 := e }⟩
 | _ => ⟨0, { e1 := e, e2 := e, e3 := e }⟩
noncomputable def KI (o : Option Scope) : Scope := o.getD { kind := .function, names := [], isGenerator := false, isCoroutine := false }
noncomputable def RX (f : Si) (p : Pos) (e : Expr) : List Expr := [e, .Constant f.c f.n p, .Name f.x p, .UnaryOp f.uo f.e1 p, .BinOp f.e1 f.bo f.e2 p, .Compare f.e1 f.co f.es p, .BoolOp f.lo f.es p, .IfExp f.e1 f.e2 f.e3 p, .Tuple f.es f.n p, .List f.es p, .Dict f.ks f.es p, .Attribute f.e1 f.x p,
 .Subscript f.e1 f.e2 p, .Slice f.o1 f.o2 f.o3 p, .Call f.e1 f.es f.kw p, .ListComp f.e1 f.gs (KI f.sc) p, e, e]
theorem Aa (e : Expr) : (RX (dY e).f e.pos e)[(dY e).k]? = some e := by cases e <;> rfl
theorem cE {P : Expr -> Prop} {t : Nat} {b : Bool} {e x : Expr} (h : (Nat.beq (dY e).k t && b) = true) (q : (RX (dY e).f e.pos e)[t]? = some x) (H : b = true -> P x) : P e := by
 have e1 := Aa e
 rw [Nat.eq_of_beq_eq_true (a1 h)] at e1
 exact Option.some.inj (q.symm.trans e1) ▸ H (a2 h)
section
variable {e : Expr} {P : Expr -> Prop}
noncomputable def fy  (k : Const -> Bool) (e : Expr) : Bool := Nat.beq (dY e).k 1 && (k (dY e).f.c)
theorem gD  {k : Const -> Bool} (h : fy  k e = true) (H : ∀ c n p, k c = true -> P (.Constant c n p)) : P e := cE h rfl fun h => H _ _ _ h
noncomputable def j9  (k : Str -> Pos -> Bool) (e : Expr) : Bool := Nat.beq (dY e).k 2 && (k (dY e).f.x e.pos)
theorem gC  {k : Str -> Pos -> Bool} (h : j9  k e = true) (H : ∀ x p, k x p = true -> P (.Name x p)) : P e := cE h rfl fun h => H _ _ h
noncomputable def Ke (op : UnaryOp) (k : Expr -> Bool) (e : Expr) : Bool := Nat.beq (dY e).k 3 && (decide (op = (dY e).f.uo) && k (dY e).f.e1)
theorem AA {op : UnaryOp} {k : Expr -> Bool} (h : Ke op k e = true) (H : ∀ a p, k a = true -> P (.UnaryOp op a p)) : P e := cE h rfl fun h => of_decide_eq_true (a1 h) ▸ H _ _ (a2 h)
noncomputable def Hr (op : Operator) (k : Expr -> Expr -> Bool) (e : Expr) : Bool := Nat.beq (dY e).k 4 && (decide (op = (dY e).f.bo) && k (dY e).f.e1 (dY e).f.e2)
theorem DV {op : Operator} {k : Expr -> Expr -> Bool} (h : Hr op k e = true) (H : ∀ l r p, k l r = true -> P (.BinOp l op r p)) : P e := cE h rfl fun h => of_decide_eq_true (a1 h) ▸ H _ _ _ (a2 h)
noncomputable def lI {α : Type} (k : α -> Bool) (l : List α) : Bool := match l with | x :: r => r.isEmpty && k x | [] => false
theorem fT {α : Type} {k : α -> Bool} {l : List α} {P : List α -> Prop} (h : lI k l = true) (H : ∀ x, k x = true -> P [x]) : P l := by
 cases l with
 | nil => cases h
 | cons x r => rw [List.isEmpty_iff.mp (a1 h)]; exact H x (a2 h)
noncomputable def AS (op : CmpOp) (k : Expr -> Expr -> Bool) (e : Expr) : Bool := Nat.beq (dY e).k 5 && (lI (fun o => decide (op = o)) (dY e).f.co && lI (k (dY e).f.e1) (dY e).f.es)
theorem xN {op : CmpOp} {k : Expr -> Expr -> Bool} (h : AS op k e = true) (H : ∀ l r p, k l r = true -> P (.Compare l [op] [r] p)) : P e := cE h rfl fun h => fT (P := fun os => P (.Compare _ os _ _)) (a1 h) fun o ho => fT (P := fun rs => P (.Compare _ [o] rs _)) (a2 h) fun r hr => of_decide_eq_true ho ▸ H _ r _ hr
noncomputable def tp (op : BoolOp) (k : List Expr -> Bool) (e : Expr) : Bool := Nat.beq (dY e).k 6 && (decide (op = (dY e).f.lo) && k (dY e).f.es)
theorem tm {op : BoolOp} {k : List Expr -> Bool} (h : tp op k e = true) (H : ∀ es p, k es = true -> P (.BoolOp op es p)) : P e := cE h rfl fun h => of_decide_eq_true (a1 h) ▸ H _ _ (a2 h)
noncomputable def Om  (k : Expr -> Expr -> Expr -> Bool) (e : Expr) : Bool := Nat.beq (dY e).k 7 && (k (dY e).f.e1 (dY e).f.e2 (dY e).f.e3)
theorem Ho  {k : Expr -> Expr -> Expr -> Bool} (h : Om  k e = true) (H : ∀ a b c p, k a b c = true -> P (.IfExp a b c p)) : P e := cE h rfl fun h => H _ _ _ _ h
noncomputable def AB  (k : List Expr -> Bool) (e : Expr) : Bool := Nat.beq (dY e).k 8 && (k (dY e).f.es)
theorem rq  {k : List Expr -> Bool} (h : AB  k e = true) (H : ∀ es n p, k es = true -> P (.Tuple es n p)) : P e := cE h rfl fun h => H _ _ _ h
noncomputable def AG  (k : List Expr -> Bool) (e : Expr) : Bool := Nat.beq (dY e).k 9 && (k (dY e).f.es)
theorem AE  {k : List Expr -> Bool} (h : AG  k e = true) (H : ∀ es p, k es = true -> P (.List es p)) : P e := cE h rfl fun h => H _ _ h
noncomputable def AM  (k : List (Option Expr) -> List Expr -> Bool) (e : Expr) : Bool := Nat.beq (dY e).k 10 && (k (dY e).f.ks (dY e).f.es)
theorem AL  {k : List (Option Expr) -> List Expr -> Bool} (h : AM  k e = true) (H : ∀ ks vs p, k ks vs = true -> P (.Dict ks vs p)) : P e := cE h rfl fun h => H _ _ _ h
noncomputable def kc  (k : Expr -> Str -> Pos -> Bool) (e : Expr) : Bool := Nat.beq (dY e).k 11 && (k (dY e).f.e1 (dY e).f.x e.pos)
theorem iA  {k : Expr -> Str -> Pos -> Bool} (h : kc  k e = true) (H : ∀ a n p, k a n p = true -> P (.Attribute a n p)) : P e := cE h rfl fun h => H _ _ _ h
noncomputable def j8  (k : Expr -> Expr -> Bool) (e : Expr) : Bool := Nat.beq (dY e).k 12 && (k (dY e).f.e1 (dY e).f.e2)
theorem gY  {k : Expr -> Expr -> Bool} (h : j8  k e = true) (H : ∀ a b p, k a b = true -> P (.Subscript a b p)) : P e := cE h rfl fun h => H _ _ _ h
noncomputable def fw  (k : Option Expr -> Option Expr -> Bool) (e : Expr) : Bool := Nat.beq (dY e).k 13 && ((dY e).f.o3.isNone && k (dY e).f.o1 (dY e).f.o2)
theorem i0  {k : Option Expr -> Option Expr -> Bool} (h : fw  k e = true) (H : ∀ a b p, k a b = true -> P (.Slice a b none p)) : P e := cE h rfl fun h => Option.isNone_iff_eq_none.mp (a1 h) ▸ H _ _ _ (a2 h)
noncomputable def iz  (k : Expr -> List Expr -> Pos -> Bool) (e : Expr) : Bool := Nat.beq (dY e).k 14 && ((dY e).f.kw.isEmpty && k (dY e).f.e1 (dY e).f.es e.pos)
theorem gE  {k : Expr -> List Expr -> Pos -> Bool} (h : iz  k e = true) (H : ∀ f es p, k f es p = true -> P (.Call f es [] p)) : P e := cE h rfl fun h => List.isEmpty_iff.mp (a1 h) ▸ H _ _ _ (a2 h)
noncomputable def gen (k : Str -> Expr -> List Expr -> Bool) (g : Comprehension) : Bool := decide (g.is_async = 0) && j9 (fun x _ => k x g.iter g.ifs) g.target
theorem Jo {k : Str -> Expr -> List Expr -> Bool} {g : Comprehension} {P : Comprehension -> Prop} (h : gen k g = true) (H : ∀ x p iter ifs, k x iter ifs = true -> P ⟨.Name x p, iter, ifs, 0⟩) : P g := by
 obtain ⟨t, iter, ifs, i⟩ := g
 cases of_decide_eq_true (a1 h)
 exact gC (P := fun t => P ⟨t, iter, ifs, 0⟩) (a2 h) fun x p h => H x p iter ifs h
noncomputable def AQ  (k : Expr -> Str -> Expr -> List Expr -> Scope -> Pos -> Bool) (e : Expr) : Bool := Nat.beq (dY e).k 15 && (lI (gen fun x iter ifs => k (dY e).f.e1 x iter ifs (KI (dY e).f.sc) e.pos) (dY e).f.gs)
theorem tj  {k : Expr -> Str -> Expr -> List Expr -> Scope -> Pos -> Bool} (h : AQ  k e = true) (H : ∀ na x px iter ifs scope p, k na x iter ifs scope p = true -> P (.ListComp na [⟨.Name x px, iter, ifs, 0⟩] scope p)) : P e := cE h rfl fun h => fT (P := fun gs => P (.ListComp _ gs _ _)) h fun g hg => Jo (P := fun g => P (.ListComp _ [g] _ _)) hg fun x px iter ifs h => H _ x px iter ifs _ _ h
noncomputable def d7 (k : Expr -> Bool) (o : Option Expr) : Bool := match o with | some e => k e | none => false
theorem fv {k : Expr -> Bool} {o : Option Expr} {P : Option Expr -> Prop} (h : d7 k o = true) (H : ∀ e, k e = true -> P (some e)) : P o := by
 cases o with
 | none => cases h
 | some e => exact H e h
noncomputable def kA (e : Expr) : Bool := !Nat.beq (dY e).k 13
theorem tV (h : kA e = true) : ∀ a b c p, e ≠ .Slice a b c p := fun a b c p q => by subst q; cases h
noncomputable def q5 (e : Expr) : Bool := !Nat.beq (dY e).k 14 || !(dY e).f.es.isEmpty
theorem vl (h : q5 e = true) : C9 e := fun n env w => by
 cases e with
 | Call f es ks p =>
  cases es with
  | nil => cases h
  | cons => cases f <;> rfl
 | _ => rfl
noncomputable def tY (e : Expr) : Bool := !(Nat.beq (dY e).k 15 || Nat.beq (dY e).k 17)
theorem nt (h : tY e = true) : n8 e := fun t n env => by cases e <;> first | rfl | cases h
noncomputable def mq (e : Expr) : Bool := !Nat.beq (dY e).k 16
theorem n9 (h : mq e = true) : rS e := fun env x => by cases e <;> first | rfl | cases h
noncomputable def K9 (e : Expr) : Bool := tY e && !Nat.beq (dY e).k 8
theorem EF (h : K9 e = true) : ya e := fun es k p l env => by cases e <;> first | exact ⟨rfl, rfl⟩ | cases h
end
end
variable {t : Tb}
section
noncomputable def iJ (t : Tb) (v : V) (c : Const) : Bool := match v with
 | .int i => (match c with | .int j => decide (i = j) | _ => false)
 | .bool a => (match c with | .bool b => decide (a = b) | _ => false)
 | .none => (match c with | .none => true | _ => false)
 | .str k => (match c with | .str x => Nat.blt k t.len && same (t.nm k) x | _ => false)
 | _ => false
noncomputable def BZ : List (Int × V) -> List (Int × V) -> Bool
 | [], b => b.isEmpty
 | p :: r, b => (match b with | q :: s => decide (p.1 = q.1) && V.beq p.2 q.2 && BZ r s | [] => false)
theorem BY {a : List (Int × V)} : ∀ {b}, BZ a b = true -> a = b := by
 induction a with
 | nil => exact fun h => (List.isEmpty_iff.mp h).symm
 | cons p r ih =>
  intro b h
  cases b with
  | nil => cases h
  | cons q s => rw [ih (a2 h), Prod.ext (of_decide_eq_true (a1 (a1 h))) ((V.eI p.2 q.2).mp (a2 (a1 h)))]
noncomputable def My (t : Tb) (k : Nat) (v : V) (x : Str) : Bool := same (t.nm k) x && (t.gv k).any fun w => V.beq v w
noncomputable def zL (t : Tb) (k : Nat) (kvs : List (Int × V)) (x : Str) : Bool := same (t.nm k) x && (t.gd k).any fun w => BZ kvs w
noncomputable def Jp (t : Tb) (o : Option Nat) (x : Str) : Bool := o.any fun k => same (t.nm k) x
noncomputable def qd (t : Tb) (a : Nat) (n : Str) : Bool := same (t.nm a) n && Nat.blt a t.len
noncomputable def JF (m k : Nat) : Bool := !(Nat.ble m 3) || Nat.beq k (cond (Nat.beq m 1) 0 1)
noncomputable def wz (names : List (Str × NameKind)) (y : Str) : Bool := names.all fun p => !same p.1 y || !(p.2 == .local || p.2 == .cell)
noncomputable def yX {α : Type} (k : α -> α -> Bool) (l : List α) : Bool := match l with | x :: r => lI (k x) r | [] => false
theorem ni {α : Type} {k : α -> α -> Bool} {l : List α} {P : List α -> Prop} (h : yX k l = true) (H : ∀ x y, k x y = true -> P [x, y]) : P l := by
 cases l with
 | nil => cases h
 | cons x r => exact fT (P := fun r => P (x :: r)) h fun y h => H x y h
theorem FX {α : Type} {o : Option α} {f : α -> Bool} (h : o.any f = true) : ∃ x, o = some x /\ f x = true := by
 cases o with
 | none => cases h
 | some x => exact ⟨x, rfl, h⟩
noncomputable def ET (t : Tb) : List V -> List Expr -> Bool
 | [], es => es.isEmpty
 | v :: l, es => (match es with | e :: r => bU e && fy (iJ t v) e && ET t l r | [] => false)
noncomputable def BR (t : Tb) (v : V) (e : Expr) : Bool := match v with
 | .ae l => AB (fun es => Nat.ble es.length 1000 && ET t l es) e
 | v => fy (iJ t v) e
noncomputable def IK (t : Tb) (v : V) (o : Option Expr) : Bool := d7 (fy fun c => match v with | .str x => (match c with | .str a => qd t x a | _ => false) | _ => false) o
noncomputable def yL (t : Tb) (kd : KK) (kvs : List (V × V)) (ks : List (Option Expr)) (vs : List Expr) : Bool := match kvs with
 | [] => ks.isEmpty && vs.isEmpty
 | kvs => decide (kd = .str) && yX (fun p q => yX (fun k1 k2 => yX (fun e1 e2 => IK t p.1 k1 && IK t q.1 k2 && !V.beq p.1 q.1 && BR t p.2 e1 && BR t q.2 e2) vs) ks) kvs
noncomputable def dJ (Λ : Sc) (g : Str -> Bool) (e : Expr) : Bool := j9 (fun x _ => g x && RP Λ x) e
noncomputable abbrev M1 : E -> Type := fun _ => Sc -> Expr -> Bool
noncomputable abbrev M2 : EL -> Type := fun _ => Sc -> List Expr -> Bool
section
variable (t : Tb)
noncomputable abbrev Tg (v : V) : M1 (.lit v) := fun _ e => fy (iJ t v) e
noncomputable abbrev Lv (k : Nat) : Sc -> Expr -> Bool := fun Λ e => j9 (fun x _ => JU x Λ.cL k && !same x nU && !same x nV) e
noncomputable abbrev GA (k : Nat) (v : V) : Sc -> Expr -> Bool := fun Λ e => dJ Λ (My t k v) e
noncomputable abbrev Gz (m : Nat) (f : Sc -> Expr -> Bool) (g : Sc -> List Expr -> Bool) : Sc -> Expr -> Bool := fun Λ e => iz (fun fn es p => kc (fun a n ap => qd t m n && q5 a && Nat.beq ap.endLine p.line && Nat.blt es.length 20 && JF m es.length && f Λ a) fn && g Λ es) e
noncomputable abbrev GB (k : Nat) (kvs : List (Int × V)) (f g : Sc -> Expr -> Bool) : Sc -> Expr -> Bool := fun Λ e => iz (fun fn es p => kc (fun a n ap => same n KR && Nat.beq ap.endLine p.line && dJ Λ (zL t k kvs) a) fn && yX (fun a b => bU a && bU b && f Λ a && g Λ b) es) e
noncomputable abbrev GC (f : Sc -> Expr -> Bool) (g : Sc -> List Expr -> Bool) : Sc -> List Expr -> Bool := fun Λ es => match es with | e :: r => bU e && f Λ e && g Λ r | [] => false
noncomputable abbrev GF (k : Nat) (fe fs : Sc -> Expr -> Bool) (fc : Sc -> List Expr -> Bool) : Sc -> Expr -> Bool := fun Λ e => AQ (fun na x iter ifs scope _ => o9 Λ scope x k && mq iter && fs Λ iter && fc (bD Λ scope.names x k) ifs && fe (bD Λ scope.names x k) na) e
noncomputable def bp (x : E) : Sc -> Expr -> Bool :=
 @E.rec M1 M2 (fun v _ e => BR t v e) (fun k => Lv k) (fun k v => GA t k v) (fun _ f Λ e => Ke .USub (f Λ) e) (fun o _ _ f g Λ e => Hr (mr o) (fun l r => f Λ l && g Λ r) e) (fun _ f Λ e => Ke .Not (f Λ) e)
  (fun o _ _ f g Λ e => AS (iX o) (fun l r => !behindInMarks (iX o) r && f Λ l && g Λ r) e) (fun _ f Λ e => tp .And (f Λ) e) (fun _ f Λ e => tp .Or (f Λ) e) (fun _ _ _ f g h Λ e => Om (fun a b c => f Λ a && g Λ b && h Λ c) e)
  (fun _ f Λ e => AB (fun es => Nat.ble es.length 1000 && f Λ es) e) (fun _ f Λ e => AG (fun es => Nat.ble es.length 1000 && f Λ es) e) (fun kd kvs _ e => AM (yL t kd kvs) e) (fun _ n f Λ e => kc (fun a x _ => qd t n x && t.ar n && q5 a && f Λ a) e)
  (fun _ _ f g Λ e => j8 (fun a b => kA b && f Λ a && g Λ b) e) (fun _ _ f g Λ e => j8 (fun a b => f Λ a && fw (fun lo hi => lo.isNone && d7 (g Λ) hi) b) e) (fun _ _ f g Λ e => j8 (fun a b => f Λ a && fw (fun lo hi => hi.isNone && d7 (g Λ) lo) b) e)
  (fun _ i j f Λ e => j8 (fun a b => f Λ a && fw (fun lo hi => d7 (fy (iJ t (.int i))) lo && d7 (fy (iJ t (.int j))) hi) b) e)
  (fun f _ g Λ e => iz (fun fn es _ => dJ Λ (Jp t (t.gf f)) fn && g Λ es) e) (fun k _ g Λ e => iz (fun fn es _ => dJ Λ (Jp t (t.gc k)) fn && g Λ es) e) (fun _ m _ f g => Gz t m f g)
  (fun b _ f Λ e => iz (fun fn es _ => dJ Λ (same (hY b)) fn && lI (fun a => bU a && f Λ a) es) e) (fun _ f Λ e => iz (fun fn es _ => dJ Λ (same vZ) fn && lI (fun a => bU a && f Λ a) es) e)
  (fun k kvs _ _ f g => GB t k kvs f g) (fun k kvs _ f Λ e => AS .In (fun l r => dJ Λ (zL t k kvs) r && f Λ l) e) (fun _ k _ _ fe fs fc => GF k fe fs fc) (fun _ _ => true) (fun _ es => es.isEmpty) (fun _ _ f g => GC f g) x
noncomputable def gS (x : EL) : Sc -> List Expr -> Bool :=
 @EL.rec M1 M2 (fun v _ e => BR t v e) (fun k => Lv k) (fun k v => GA t k v) (fun _ f Λ e => Ke .USub (f Λ) e) (fun o _ _ f g Λ e => Hr (mr o) (fun l r => f Λ l && g Λ r) e) (fun _ f Λ e => Ke .Not (f Λ) e)
  (fun o _ _ f g Λ e => AS (iX o) (fun l r => !behindInMarks (iX o) r && f Λ l && g Λ r) e) (fun _ f Λ e => tp .And (f Λ) e) (fun _ f Λ e => tp .Or (f Λ) e) (fun _ _ _ f g h Λ e => Om (fun a b c => f Λ a && g Λ b && h Λ c) e)
  (fun _ f Λ e => AB (fun es => Nat.ble es.length 1000 && f Λ es) e) (fun _ f Λ e => AG (fun es => Nat.ble es.length 1000 && f Λ es) e) (fun kd kvs _ e => AM (yL t kd kvs) e) (fun _ n f Λ e => kc (fun a x _ => qd t n x && t.ar n && q5 a && f Λ a) e)
  (fun _ _ f g Λ e => j8 (fun a b => kA b && f Λ a && g Λ b) e) (fun _ _ f g Λ e => j8 (fun a b => f Λ a && fw (fun lo hi => lo.isNone && d7 (g Λ) hi) b) e) (fun _ _ f g Λ e => j8 (fun a b => f Λ a && fw (fun lo hi => hi.isNone && d7 (g Λ) lo) b) e)
  (fun _ i j f Λ e => j8 (fun a b => f Λ a && fw (fun lo hi => d7 (fy (iJ t (.int i))) lo && d7 (fy (iJ t (.int j))) hi) b) e)
  (fun f _ g Λ e => iz (fun fn es _ => dJ Λ (Jp t (t.gf f)) fn && g Λ es) e) (fun k _ g Λ e => iz (fun fn es _ => dJ Λ (Jp t (t.gc k)) fn && g Λ es) e) (fun _ m _ f g => Gz t m f g)
  (fun b _ f Λ e => iz (fun fn es _ => dJ Λ (same (hY b)) fn && lI (fun a => bU a && f Λ a) es) e) (fun _ f Λ e => iz (fun fn es _ => dJ Λ (same vZ) fn && lI (fun a => bU a && f Λ a) es) e)
  (fun k kvs _ _ f g => GB t k kvs f g) (fun k kvs _ f Λ e => AS .In (fun l r => dJ Λ (zL t k kvs) r && f Λ l) e) (fun _ k _ _ fe fs fc => GF k fe fs fc) (fun _ _ => true) (fun _ es => es.isEmpty) (fun _ _ f g => GC f g) x
end
section
variable {d : Nat} {c : Cl} {e : Expr} {x : E} {v : V} {k : Nat}
theorem hZ (H : fN t C d c) {a : Nat} {n : Str} (h : qd t a n = true) : C.T.nm a = n /\ a < C.T.len := ⟨by rw [<- H.nm]; exact cA (a1 h), by rw [<- H.len]; exact Nat.blt_eq.mp (a2 h)⟩
structure er (C : Cx) (d : Nat) (c : Cl) (Λ : Sc) (e : Expr) (x : E) : Prop where
 oe : b8 C d c Λ e x
 ot : pF C d c Λ e x
 os : pA C d c Λ e x
theorem er.of (he : b8 C d c Λ e x) (ht : Br e) (hr : ∀ {ρ σ Ψ}, wS c x ρ σ Ψ -> wE c x ρ σ (tD Ψ)) : er C d c Λ e x := ⟨he, he.Ox ht, Bz he hr⟩
noncomputable abbrev Ds (C : Cx) (d : Nat) (c : Cl) (Λ : Sc) (es : List Expr) (xs : EL) : Prop := tc (fun e x => bU e = true /\ er C d c Λ e x) es xs
theorem Ds.a {es : List Expr} {xs : EL} (h : Ds C d c Λ es xs) : Dt C d c Λ es xs := h.imp fun _ _ q => ⟨q.1, q.2.oe⟩
theorem ui (H : fN t C d c) {k : Const} {n : Nat} {pos : Pos} (h : iJ t v k = true) : b8 C d c Λ (.Constant k n pos) (.lit v) := by
 cases v with
 | int i => cases k <;> first | exact of_decide_eq_true h ▸ Ik | exact absurd h Bool.false_ne_true
 | bool b => cases k <;> first | exact of_decide_eq_true h ▸ EA | exact absurd h Bool.false_ne_true
 | none => cases k <;> first | exact Es | exact absurd h Bool.false_ne_true
 | str x => cases k <;> first | exact (hZ H (Bool.and_eq_true_iff.mpr ⟨a2 h, a1 h⟩ : qd t x _ = true)).1 ▸ Ic (H.len ▸ Nat.blt_eq.mp (a1 h)) | exact absurd h Bool.false_ne_true
 | _ => exact absurd h Bool.false_ne_true
noncomputable def Lk (l : List V) : EL := l.foldr (fun v r => .cons (.lit v) r) .nil
theorem IE {l : List V} : ∀ {ρ σ} {Ψ : PL}, Ψ l σ -> wL c (Lk l) ρ σ Ψ := by
 induction l with
 | nil => exact fun h => h
 | cons v r ih => exact fun {ρ σ Ψ} h => ih (Ψ := G3 v Ψ) h
theorem ES (H : fN t C d c) {l : List V} : ∀ {es}, ET t l es = true -> Dt C d c Λ es (Lk l) := by
 induction l with
 | nil => exact fun h => List.isEmpty_iff.mp h ▸ .nil
 | cons v r ih =>
  intro es h
  cases es with
  | nil => cases h
  | cons e es => exact .cons ⟨a1 (a1 h), gD (P := fun e => b8 C d c Λ e (.lit v)) (a2 (a1 h)) fun _ _ _ h => ui H h⟩ (ih (a2 h))
theorem rU (H : fN t C d c) (h : BR t v e = true) : er C d c Λ e (.lit v) := by
 cases v with
 | ae l => exact rq (P := fun e => er C d c Λ e (.lit (.ae l))) (k := fun es => Nat.ble es.length 1000 && ET t l es) h fun es n p h => .of (fun G w q => By (ky (ES H (a2 h))) (Nat.le_of_ble_eq_true (a1 h)) G (IE w) q) (fun _ _ => rfl) id
 | _ => exact gD (P := fun e => er C d c Λ e (.lit _)) (k := iJ t _) h fun _ _ _ h => .of (ui H h) (fun _ _ => rfl) id
end
end
section
section
variable {d : Nat} {c : Cl} {e : Expr} {x : E} {v : V} {k : Nat} {kvs : List (Int × V)}
theorem fF {g : Str -> Bool} {P : Expr -> Prop} (h : dJ Λ g e = true) (H : ∀ x p, g x = true -> Λ.names.lookup x = some .globalImplicit -> (x == ("__debug__" : Str)) = false -> P (.Name x p)) : P e :=
 gC (k := fun x _ => g x && RP Λ x) h fun x p h => H x p (a1 h) (gu (a1 (a2 h))) (nk (a2 (a2 h)))
theorem yB {n : Str} (H : fN t C d c) (h : zL t k kvs n = true) : GD C n kvs := by
 obtain ⟨w, hw, e⟩ := FX (a2 h)
 exact cA (a1 h) ▸ BY e ▸ H.gd _ _ hw
theorem CB {n : Str} {o : Option Nat} (h : Jp t o n = true) : ∃ k, o = some k /\ t.nm k = n := let ⟨k, hk, e⟩ := FX h; ⟨k, hk, cA e⟩
theorem JD {a b : Nat} (h : Nat.beq a b = true) : (a == b) = true := beq_iff_eq.mpr (Nat.eq_of_beq_eq_true h)
theorem FW {m n : Nat} (h : JF m n = true) : yP m n := fun q => (Bool.or_eq_true_iff.mp h).elim (fun z => absurd (q.symm.trans (n1 z)) (fun e => nomatch e)) Nat.eq_of_beq_eq_true
theorem yn (H : fN t C d c) {o : Option Expr} {P : Option Expr -> Prop} (h : IK t v o = true) (q : ∀ x n p, v = .str x -> x < C.T.len -> P (some (.Constant (.str (C.T.nm x)) n p))) : P o :=
 fv h fun e h => gD (P := fun e => P (some e)) h fun c n p h => by
  cases v with
  | str x => cases c <;> first | exact (hZ H h).1 ▸ q x n p rfl (hZ H h).2 | exact absurd h Bool.false_ne_true
  | _ => exact absurd h Bool.false_ne_true
theorem CP (H : fN t C d c) {kd : KK} {kvs : List (V × V)} {ks : List (Option Expr)} {vs : List Expr} {pos : Pos} (h : yL t kd kvs ks vs = true) : b8 C d c Λ (.Dict ks vs pos) (.dict kd kvs) := by
 cases kvs with
 | nil => rw [List.isEmpty_iff.mp (a1 h), List.isEmpty_iff.mp (a2 h)]; exact BC
 | cons p r =>
  rw [of_decide_eq_true (a1 h)]
  refine ni (P := fun kvs => b8 C d c Λ (.Dict ks vs pos) (.dict .str kvs)) (a2 h) fun p q h => ni (P := fun ks => b8 C d c Λ (.Dict ks vs pos) _) h fun k1 k2 h => ni (P := fun vs => b8 C d c Λ (.Dict _ vs pos) _) h fun e1 e2 h => ?_
  refine yn H (P := fun k1 => b8 C d c Λ (.Dict [k1, k2] _ pos) _) (a1 (a1 (a1 (a1 h)))) fun x Vr p1 ex hx => yn H (P := fun k2 => b8 C d c Λ (.Dict [_, k2] _ pos) _) (a2 (a1 (a1 (a1 h)))) fun y n2 p2 ey hy => ?_
  obtain ⟨a, b⟩ := p
  obtain ⟨a', b'⟩ := q
  subst ex ey
  exact BB hx rfl hy rfl (fun e => Bool.false_ne_true ((n1 (a2 (a1 (a1 h)))).symm.trans (e ▸ (V.eI _ _).mpr rfl))) (rU H (a2 (a1 h))).oe (rU H (a2 h)).oe
theorem er.JT (he : b8 C d c Λ e x) (ht : pF C d c Λ e x) (hr : ∀ {ρ σ Ψ}, wS c x ρ σ Ψ -> wE c x ρ σ (tD Ψ)) : er C d c Λ e x := ⟨he, ht, Bz he hr⟩
theorem bE (x : E) : ∀ {Λ e C}, bp t x Λ e = true -> fN t C d c -> er C d c Λ e x := by
 refine @E.rec (motive_1 := fun x => ∀ {Λ e C}, bp t x Λ e = true -> fN t C d c -> er C d c Λ e x) (motive_2 := fun xs => ∀ {Λ es C}, gS t xs Λ es = true -> fN t C d c -> Ds C d c Λ es xs) ?_ ?_ ?_ ?_ ?_ ?_ ?_ ?_ ?_ ?_ ?_ ?_ ?_ ?_ ?_ ?_ ?_ ?_ ?_ ?_ ?_ ?_ ?_ ?_ ?_ ?_ ?_ ?_ ?_ x
 ·exact fun v Λ e C h H => rU H h
 ·exact fun k Λ e C h H => gC (P := fun e => er C d c Λ e _) (k := fun x _ => JU x Λ.cL k && !same x nU && !same x nV) h fun x p h => .of (Ii (wK (a1 (a1 h))) (nk (a2 (a1 h))) (nk (a2 h))) (fun _ _ => rfl) id
 ·exact fun k v Λ e C h H => fF (P := fun e => er C d c Λ e _) (g := My t k v) h fun x p h hx hd => by
   obtain ⟨w, hw, e⟩ := FX (a2 h)
   exact .of (Ew (cA (a1 h) ▸ (V.eI _ _).mp e ▸ H.gv _ _ hw) hx hd) (fun _ _ => rfl) id
 ·exact fun a f Λ e C h H => AA (P := fun e => er C d c Λ e _) (k := bp t a Λ) h fun a p h => .of (Ih (f h H).oe) (fun _ _ => rfl) id
 ·exact fun o a b f g Λ e C h H => DV (P := fun e => er C d c Λ e _) (k := fun l r => bp t a Λ l && bp t b Λ r) h fun l r p h => .of (Ip (f (a1 h) H).oe (g (a2 h) H).oe) (fun _ _ => rfl) id
 ·exact fun a f Λ e C h H => AA (P := fun e => er C d c Λ e _) (k := bp t a Λ) h fun a p h => .JT (Ie (f h H).oe) (Ek (f h H).ot) id
 ·exact fun o a b f g Λ e C h H => xN (P := fun e => er C d c Λ e _) (k := fun l r => !behindInMarks (iX o) r && bp t a Λ l && bp t b Λ r) h fun l r p h =>
   have y := f (a2 (a1 h)) H; have z := g (a2 h) H; have m := n1 (a1 (a1 h)); .JT (Io y.oe z.oe m) (Eo y.oe z.oe m) id
 ·exact fun xs f Λ e C h H => tm (P := fun e => er C d c Λ e _) (k := gS t xs Λ) h fun es p h => .JT (Iq ((f h H).imp fun _ _ q => q.2.oe)) (Ep ((f h H).imp fun _ _ q => q.2.ot)) id
 ·exact fun xs f Λ e C h H => tm (P := fun e => er C d c Λ e _) (k := gS t xs Λ) h fun es p h => .JT (KY ((f h H).imp fun _ _ q => q.2.oe)) (Ia ((f h H).imp fun _ _ q => q.2.ot)) id
 ·exact fun a b b' f g g' Λ e C h H => Ho (P := fun e => er C d c Λ e _) (k := fun l r s => bp t a Λ l && bp t b Λ r && bp t b' Λ s) h fun l r s p h =>
   have y := f (a1 (a1 h)) H; have z := g (a2 (a1 h)) H; have w := g' (a2 h) H; .JT (Ij y.ot z.oe w.oe) (El y.ot z.ot w.ot) id
 ·exact fun xs f Λ e C h H => rq (P := fun e => er C d c Λ e _) (k := fun es => Nat.ble es.length 1000 && gS t xs Λ es) h fun es n p h => .of (By (ky (f (a2 h) H).a) (Nat.le_of_ble_eq_true (a1 h))) (fun _ _ => rfl) id
 ·exact fun xs f Λ e C h H => AE (P := fun e => er C d c Λ e _) (k := fun es => Nat.ble es.length 1000 && gS t xs Λ es) h fun es p h => .of (Eu (ky (f (a2 h) H).a) (Nat.le_of_ble_eq_true (a1 h))) (fun _ _ => rfl) id
 ·exact fun kd kvs Λ e C h H => AL (P := fun e => er C d c Λ e _) (k := yL t kd kvs) h fun ks vs p h => .of (CP H h) (fun _ _ => rfl) id
 ·exact fun a n f Λ e C h H => iA (P := fun e => er C d c Λ e _) (k := fun e x _ => qd t n x && t.ar n && q5 e && bp t a Λ e) h fun e x p h =>
   have y := hZ H (a1 (a1 (a1 h))); .of (EB H.cls (f (a2 h) H).oe y.1 (H.ar _ (a2 (a1 (a1 h)))) y.2 (vl (a2 (a1 h)))) (fun _ _ => rfl) id
 ·exact fun a b f g Λ e C h H => gY (P := fun e => er C d c Λ e _) (k := fun e e' => kA e' && bp t a Λ e && bp t b Λ e') h fun e e' p h => .of (Ib (f (a2 (a1 h)) H).oe (g (a2 h) H).oe (tV (a1 (a1 h)))) (fun _ _ => rfl) id
 ·exact fun a b f g Λ e C h H => gY (P := fun e => er C d c Λ e _) (k := fun e e' => bp t a Λ e && fw (fun lo hi => lo.isNone && d7 (bp t b Λ) hi) e') h fun e e' p h =>
   i0 (P := fun e' => er C d c Λ (.Subscript e e' p) _) (a2 h) fun lo hi q h' => Option.isNone_iff_eq_none.mp (a1 h') ▸ fv (P := fun hi => er C d c Λ (.Subscript e (.Slice none hi none q) p) _) (a2 h') fun e' h' => .of (Er (f (a1 h) H).oe (g h' H).oe) (fun _ _ => rfl) id
 ·exact fun a b f g Λ e C h H => gY (P := fun e => er C d c Λ e _) (k := fun e e' => bp t a Λ e && fw (fun lo hi => hi.isNone && d7 (bp t b Λ) lo) e') h fun e e' p h =>
   i0 (P := fun e' => er C d c Λ (.Subscript e e' p) _) (a2 h) fun lo hi q h' => Option.isNone_iff_eq_none.mp (a1 h') ▸ fv (P := fun lo => er C d c Λ (.Subscript e (.Slice lo none none q) p) _) (a2 h') fun e' h' => .of (Ey (f (a1 h) H).oe (g h' H).oe) (fun _ _ => rfl) id
 ·exact fun a i j f Λ e C h H => gY (P := fun e => er C d c Λ e _) (k := fun e e' => bp t a Λ e && fw (fun lo hi => d7 (fy (iJ t (.int i))) lo && d7 (fy (iJ t (.int j))) hi) e') h fun e e' p h =>
   i0 (P := fun e' => er C d c Λ (.Subscript e e' p) _) (a2 h) fun lo hi q h' => fv (P := fun lo => er C d c Λ (.Subscript e (.Slice lo hi none q) p) _) (a1 h') fun l hl => fv (P := fun hi => er C d c Λ (.Subscript e (.Slice (some l) hi none q) p) _) (a2 h') fun r hr =>
   gD (P := fun l => er C d c Λ (.Subscript e (.Slice (some l) (some r) none q) p) _) hl fun cl _ _ hl => gD (P := fun r => er C d c Λ (.Subscript e (.Slice (some (.Constant cl _ _)) (some r) none q) p) _) hr fun cr _ _ hr => by
    cases cl <;> first | exact absurd hl Bool.false_ne_true | skip
    cases cr <;> first | exact absurd hr Bool.false_ne_true | skip
    rw [<- of_decide_eq_true hl, <- of_decide_eq_true hr]
    exact .of (Im (f (a1 h) H).oe) (fun _ _ => rfl) id
 ·exact fun k xs g Λ e C h H => gE (P := fun e => er C d c Λ e _) (k := fun fn es _ => dJ Λ (Jp t (t.gf k)) fn && gS t xs Λ es) h fun fn es p h => fF (P := fun fn => er C d c Λ (.Call fn es [] p) _) (a1 h) fun x q hg hx hd => by
   obtain ⟨j, hj, rfl⟩ := CB hg
   exact .of (Ez (H.call C.mZ) (H.gf _ _ hj).1 (H.gf _ _ hj).2 hx hd (g (a2 h) H).a) (fun _ _ => rfl) id
 ·exact fun k xs g Λ e C h H => gE (P := fun e => er C d c Λ e _) (k := fun fn es _ => dJ Λ (Jp t (t.gc k)) fn && gS t xs Λ es) h fun fn es p h => fF (P := fun fn => er C d c Λ (.Call fn es [] p) _) (a1 h) fun x q hg hx hd => by
   obtain ⟨j, hj, rfl⟩ := CB hg
   obtain ⟨h1, h2, h3⟩ := H.gc _ _ hj
   exact .of (Ig (H.call C.mZ) h2 h1 h3 hx hd (g (a2 h) H).a) (fun _ _ => rfl) id
 ·exact fun a m xs f g Λ e C h H => gE (P := fun e => er C d c Λ e _) (k := fun fn es p => kc (fun e n ap => qd t m n && q5 e && Nat.beq ap.endLine p.line && Nat.blt es.length 20 && JF m es.length && bp t a Λ e) fn && gS t xs Λ es) h fun fn es p h =>
   iA (P := fun fn => er C d c Λ (.Call fn es [] p) _) (a1 h) fun e n ap h' => have y := hZ H (a1 (a1 (a1 (a1 (a1 h')))));
    .of (Et (H.call C.mZ) H.cls (fun k hk f e => H.aM k hk m f e) H.names (f (a2 h') H).oe y.1 y.2 (vl (a2 (a1 (a1 (a1 (a1 h')))))) (JD (a2 (a1 (a1 (a1 h'))))) (Nat.blt_eq.mp (a2 (a1 (a1 h')))) (FW (a2 (a1 h'))) (g (a2 h) H).a) (fun _ _ => rfl) id
 ·exact fun b a f Λ e C h H => gE (P := fun e => er C d c Λ e _) (k := fun fn es _ => dJ Λ (same (hY b)) fn && lI (fun e => bU e && bp t a Λ e) es) h fun fn es p h => fF (P := fun fn => er C d c Λ (.Call fn es [] p) _) (a1 h) fun x q hg hx hd =>
   fT (P := fun es => er C d c Λ (.Call (.Name x q) es [] p) _) (a2 h) fun e h => .of (KZ (cA hg).symm (cA hg ▸ H.bf b) hx (f (a2 h) H).oe (a1 h)) (fun _ _ => rfl) id
 ·exact fun a f Λ e C h H => gE (P := fun e => er C d c Λ e _) (k := fun fn es _ => dJ Λ (same vZ) fn && lI (fun e => bU e && bp t a Λ e) es) h fun fn es p h => fF (P := fun fn => er C d c Λ (.Call fn es [] p) _) (a1 h) fun x q hg hx hd =>
   fT (P := fun es => er C d c Λ (.Call (.Name x q) es [] p) _) (a2 h) fun e h => ⟨fun _ w _ => w.elim, fun _ w _ => w.elim, BA (cA hg).symm (cA hg ▸ H.pH) hx (f (a2 h) H).oe (a1 h)⟩
 ·exact fun k kvs a b f g Λ e C h H => gE (P := fun e => er C d c Λ e _) (k := fun fn es p => kc (fun e n ap => same n KR && Nat.beq ap.endLine p.line && dJ Λ (zL t k kvs) e) fn && yX (fun e e' => bU e && bU e' && bp t a Λ e && bp t b Λ e') es) h fun fn es p h =>
   iA (P := fun fn => er C d c Λ (.Call fn es [] p) _) (a1 h) fun e n ap h' => fF (P := fun e => er C d c Λ (.Call (.Attribute e n ap) es [] p) _) (a2 h') fun x q hg hx hd => ni (P := fun es => er C d c Λ (.Call (.Attribute (.Name x q) n ap) es [] p) _) (a2 h) fun e e' h =>
    .of (Ex (yB H hg) (f (a2 (a1 h)) H).oe (g (a2 h) H).oe (a1 (a1 (a1 h))) (a2 (a1 (a1 h))) (cA (a1 (a1 h'))) hx hd (JD (a2 (a1 h')))) (fun _ _ => rfl) id
 ·exact fun k kvs a f Λ e C h H => xN (P := fun e => er C d c Λ e _) (k := fun l r => dJ Λ (zL t k kvs) r && bp t a Λ l) h fun l r p h => fF (P := fun r => er C d c Λ (.Compare l [.In] [r] p) _) (a1 h) fun x q hg hx hd =>
   have y := f (a2 h) H; have G := yB H hg; .JT (Il G y.oe hx hd) (Em G y.oe hx hd) id
 ·exact fun xe k xi cs fe fs fc Λ e C h H => tj (P := fun e => er C d c Λ e _) (k := fun na x iter ifs scope _ => o9 Λ scope x k && mq iter && bp t xi Λ iter && gS t cs (bD Λ scope.names x k) ifs && bp t xe (bD Λ scope.names x k) na) h fun na x px iter ifs scope p h =>
   .of (x6 (fs (a2 (a1 (a1 h))) H).os (qX (a1 (a1 (a1 (a1 h))))) (fun f => (fc (a2 (a1 h)) (H.at' f)).imp fun _ _ q => q.2.ot) (fun f => (fe (a2 h) (H.at' f)).oe) (n9 (a2 (a1 (a1 (a1 h)))))) (fun _ _ => rfl) id
 ·exact fun {Λ e C} h H => ⟨fun _ w _ => w.elim, fun _ w _ => w.elim, fun _ w _ => w.elim⟩
 ·exact fun {Λ es C} h H => List.isEmpty_iff.mp h ▸ .nil
 ·exact fun x xs f g Λ es C h H => by
   cases es with
   | nil => cases h
   | cons e es => exact .cons ⟨a1 (a1 h), f (a2 (a1 h)) H⟩ (g (a2 h) H)
theorem CZ (xs : EL) : ∀ {Λ es C}, gS t xs Λ es = true -> fN t C d c -> Ds C d c Λ es xs := by
 have go : ∀ (x : E) {Λ e C}, bp t x Λ e = true -> fN t C d c -> er C d c Λ e x := fun x => bE x
 exact @EL.rec (motive_1 := fun _ => True) (motive_2 := fun xs => ∀ {Λ es C}, gS t xs Λ es = true -> fN t C d c -> Ds C d c Λ es xs) (fun _ => trivial) (fun _ => trivial) (fun _ _ => trivial) (fun _ _ => trivial) (fun _ _ _ _ _ => trivial) (fun _ _ => trivial) (fun _ _ _ _ _ => trivial) (fun _ _ => trivial) (fun _ _ => trivial)
  (fun _ _ _ _ _ _ => trivial) (fun _ _ => trivial) (fun _ _ => trivial) (fun _ _ => trivial) (fun _ _ _ => trivial) (fun _ _ _ _ => trivial) (fun _ _ _ _ => trivial) (fun _ _ _ _ => trivial) (fun _ _ _ _ => trivial) (fun _ _ _ => trivial) (fun _ _ _ => trivial) (fun _ _ _ _ _ => trivial) (fun _ _ _ => trivial) (fun _ _ => trivial)
  (fun _ _ _ _ _ _ => trivial) (fun _ _ _ _ => trivial) (fun _ _ _ _ _ _ _ => trivial) trivial (fun {Λ es C} h H => List.isEmpty_iff.mp h ▸ .nil) (fun x xs _ g Λ es C h H => by
   cases es with
   | nil => cases h
   | cons e es => exact .cons ⟨a1 (a1 h), bE x (a2 (a1 h)) H⟩ (g (a2 h) H)) xs
end
end
section
structure Sl where
 k : Nat
 ts : List Expr := []
 op : Operator := .Add
 e1 : Option Expr := none
 e2 : Option Expr := none
 a : List Stmt := []
 b : List Stmt := []
 p : Pos
noncomputable def bW (st : Stmt) : Sl := match st with
 | .Assign ts e p => { k := 1, ts := ts, e1 := some e, p := p }
 | .AugAssign t o e p => { k := 2, e1 := some t, op := o, e2 := some e, p := p }
 | .Expr e p => { k := 3, e1 := some e, p := p }
 | .Return e p => { k := 4, e1 := e, p := p }
 | .If e a b p => { k := 5, e1 := some e, a := a, b := b, p := p }
 | .For t i a b p => { k := 6, e1 := some t, e2 := some i, a := a, b := b, p := p }
 | .While e a b p => { k := 7, e1 := some e, a := a, b := b, p := p }
 | .Delete ts p => { k := 8, ts := ts, p := p }
 | .Continue p => { k := 9, p := p }
 | _ => { k := 0, p := ⟨0, 0, 0, 0⟩ }
noncomputable def ex (o : Option Expr) : Expr := o.getD (.Name nU ⟨0, 0, 0, 0⟩)
noncomputable def Hc (f : Sl) (st : Stmt) : List Stmt := [st, .Assign f.ts (ex f.e1) f.p, .AugAssign (ex f.e1) f.op (ex f.e2) f.p, .Expr (ex f.e1) f.p, .Return f.e1 f.p, .If (ex f.e1) f.a f.b f.p, .For (ex f.e1) (ex f.e2) f.a f.b f.p, .While (ex f.e1) f.a f.b f.p, .Delete f.ts f.p, .Continue f.p]
theorem xD (st : Stmt) : (Hc (bW st) st)[(bW st).k]? = some st := by cases st <;> rfl
theorem dS {P : Stmt -> Prop} {t : Nat} {b : Bool} {st x : Stmt} (h : (Nat.beq (bW st).k t && b) = true) (q : (Hc (bW st) st)[t]? = some x) (H : b = true -> P x) : P st := by
 have e1 := xD st
 rw [Nat.eq_of_beq_eq_true (a1 h)] at e1
 exact Option.some.inj (q.symm.trans e1) ▸ H (a2 h)
section
variable {P : Stmt -> Prop}
noncomputable def fg  (k : Expr -> Expr -> Pos -> Bool) (st : Stmt) : Bool := Nat.beq (bW st).k 1 && (lI (fun t => k t (ex (bW st).e1) (bW st).p) (bW st).ts)
theorem gZ  {k : Expr -> Expr -> Pos -> Bool} (h : fg  k st = true) (H : ∀ t e p, k t e p = true -> P (.Assign [t] e p)) : P st := dS h rfl fun h => fT (P := fun ts => P (.Assign ts _ _)) h fun t h => H t _ _ h
noncomputable def Hs (op : Operator) (k : Expr -> Expr -> Bool) (st : Stmt) : Bool := Nat.beq (bW st).k 2 && (decide (op = (bW st).op) && k (ex (bW st).e1) (ex (bW st).e2))
theorem DW {op : Operator} {k : Expr -> Expr -> Bool} (h : Hs op k st = true) (H : ∀ t e p, k t e = true -> P (.AugAssign t op e p)) : P st := dS h rfl fun h => of_decide_eq_true (a1 h) ▸ H _ _ _ (a2 h)
noncomputable def AK  (k : Expr -> Bool) (st : Stmt) : Bool := Nat.beq (bW st).k 3 && (k (ex (bW st).e1))
theorem AJ  {k : Expr -> Bool} (h : AK  k st = true) (H : ∀ e p, k e = true -> P (.Expr e p)) : P st := dS h rfl fun h => H _ _ h
noncomputable def AD  (k : Option Expr -> Bool) (st : Stmt) : Bool := Nat.beq (bW st).k 4 && (k (bW st).e1)
theorem xK  {k : Option Expr -> Bool} (h : AD  k st = true) (H : ∀ e p, k e = true -> P (.Return e p)) : P st := dS h rfl fun h => H _ _ h
noncomputable def Hp  (k : Expr -> List Stmt -> List Stmt -> Bool) (st : Stmt) : Bool := Nat.beq (bW st).k 5 && (k (ex (bW st).e1) (bW st).a (bW st).b)
theorem DT  {k : Expr -> List Stmt -> List Stmt -> Bool} (h : Hp  k st = true) (H : ∀ e a b p, k e a b = true -> P (.If e a b p)) : P st := dS h rfl fun h => H _ _ _ _ h
noncomputable def Hq  (k : Expr -> Expr -> List Stmt -> Bool) (st : Stmt) : Bool := Nat.beq (bW st).k 6 && ((bW st).b.isEmpty && k (ex (bW st).e1) (ex (bW st).e2) (bW st).a)
theorem DU  {k : Expr -> Expr -> List Stmt -> Bool} (h : Hq  k st = true) (H : ∀ t i b p, k t i b = true -> P (.For t i b [] p)) : P st := dS h rfl fun h => List.isEmpty_iff.mp (a1 h) ▸ H _ _ _ _ (a2 h)
noncomputable def vQ  (k : Expr -> List Stmt -> Bool) (st : Stmt) : Bool := Nat.beq (bW st).k 7 && ((bW st).b.isEmpty && k (ex (bW st).e1) (bW st).a)
theorem yW  {k : Expr -> List Stmt -> Bool} (h : vQ  k st = true) (H : ∀ e b p, k e b = true -> P (.While e b [] p)) : P st := dS h rfl fun h => List.isEmpty_iff.mp (a1 h) ▸ H _ _ _ (a2 h)
noncomputable def AN  (k : Expr -> Bool) (st : Stmt) : Bool := Nat.beq (bW st).k 8 && (lI k (bW st).ts)
theorem xM  {k : Expr -> Bool} (h : AN  k st = true) (H : ∀ t p, k t = true -> P (.Delete [t] p)) : P st := dS h rfl fun h => fT (P := fun ts => P (.Delete ts _)) h fun t h => H t _ h
noncomputable def AP (st : Stmt) : Bool := Nat.beq (bW st).k 9 && true
theorem AO (h : AP st = true) (H : ∀ p, P (.Continue p)) : P st := dS h rfl fun _ => H _
end
noncomputable def AV (Λ : Sc) : List Expr -> List Nat -> Bool
 | [], ks => ks.isEmpty
 | e :: r, ks => (match ks with | k :: ks => j9 (fun x _ => aa Λ x k) e && AV Λ r ks | [] => false)
theorem AU {Λ : Sc} {es : List Expr} : ∀ {ks : List Nat}, AV Λ es ks = true -> Ge Λ es ks := by
 induction es with
 | nil => exact fun h => List.isEmpty_iff.mp h ▸ .nil
 | cons e r ih =>
  intro ks h
  cases ks with
  | nil => cases h
  | cons k ks => exact gC (P := fun e => Ge Λ (e :: r) (k :: ks)) (a1 h) fun x p hx => .cons (wI hx) (ih (a2 h))
noncomputable abbrev N1 : S -> Type := fun _ => Sc -> Stmt -> Bool
noncomputable abbrev N2 : SL -> Type := fun _ => Sc -> List Stmt -> Bool
section
variable (t : Tb)
noncomputable def Lw (Λ : Sc) (y : Str) (py : Pos) (x : E) (e : Expr) : Bool := match x with
 | .comp xe k xi cs => AQ (fun na v iter ifs scope p => o9 Λ scope v k && mq iter && Nat.beq py.line p.line && wz scope.names y && bp t xi Λ iter && gS t cs (bD Λ scope.names v k) ifs && bp t xe (bD Λ scope.names v k) na) e
 | .bS => true
 | x => tY e && bp t x Λ e
noncomputable abbrev Hw (j : Nat) (x : E) (Λ : Sc) (g e : Expr) : Bool := j9 (fun y py => aa Λ y j && Lw t Λ y py x e) g
noncomputable abbrev Hu (ks : List Nat) (x : E) (Λ : Sc) (g e : Expr) : Bool := AB (fun es => AV Λ es ks && K9 e && bp t x Λ e) g
noncomputable abbrev AY (o : E) (a : Nat) (x : E) (Λ : Sc) (g e : Expr) : Bool := kc (fun oe n _ => qd t a n && t.ar a && tY e && bp t o Λ oe && bp t x Λ e) g
noncomputable abbrev AX (o i x : E) (Λ : Sc) (g e : Expr) : Bool := j8 (fun oe ie => tY e && bp t o Λ oe && bp t i Λ ie && bp t x Λ e) g
noncomputable abbrev Hv (o : E) (a : Nat) (op : vF) (x : E) (Λ : Sc) (g e : Expr) : Bool := kc (fun oe n _ => qd t a n && t.ar a && decide (op = .add \/ op = .sub) && bp t o Λ oe && bp t x Λ e) g
noncomputable abbrev AZ (o i : E) (Λ : Sc) (g : Expr) : Bool := j8 (fun oe e => bp t o Λ oe && fw (fun lo hi => hi.isNone && d7 (bp t i Λ) lo) e) g
noncomputable def Qo (x : S) : Sc -> Stmt -> Bool :=
 @S.rec N1 N2 (fun j x Λ st => fg (fun g e _ => Hw t j x Λ g e) st) (fun ks x Λ st => fg (fun g e _ => Hu t ks x Λ g e) st) (fun o a x Λ st => fg (fun g e _ => AY t o a x Λ g e) st) (fun o i x Λ st => fg (fun g e _ => AX t o i x Λ g e) st)
  (fun o a op x Λ st => Hs (mr op) (Hv t o a op x Λ) st) (fun x Λ st => AK (fun e => tY e && bp t x Λ e) st) (fun x Λ st => AD (d7 (bp t x Λ)) st) (fun _ st => AD (fun e => e.isNone) st) (fun x _ _ f g Λ st => Hp (fun e a b => bp t x Λ e && f Λ a && g Λ b) st)
  (fun k x _ f Λ st => Hq (fun g i b => j9 (fun y _ => aa Λ y k) g && mq i && bp t x Λ i && f Λ b) st) (fun x _ f Λ st => vQ (fun e b => bp t x Λ e && f Λ b) st) (fun o i Λ st => AN (j8 fun oe ie => bp t o Λ oe && bp t i Λ ie) st) (fun o i Λ st => AN (AZ t o i Λ) st)
  (fun _ st => AP st) (fun _ _ => true) (fun _ kl => kl.isEmpty) (fun _ _ f g Λ kl => match kl with | st :: r => f Λ st && g Λ r | [] => false) x
noncomputable def iY (x : SL) : Sc -> List Stmt -> Bool :=
 @SL.rec N1 N2 (fun j x Λ st => fg (fun g e _ => Hw t j x Λ g e) st) (fun ks x Λ st => fg (fun g e _ => Hu t ks x Λ g e) st) (fun o a x Λ st => fg (fun g e _ => AY t o a x Λ g e) st) (fun o i x Λ st => fg (fun g e _ => AX t o i x Λ g e) st)
  (fun o a op x Λ st => Hs (mr op) (Hv t o a op x Λ) st) (fun x Λ st => AK (fun e => tY e && bp t x Λ e) st) (fun x Λ st => AD (d7 (bp t x Λ)) st) (fun _ st => AD (fun e => e.isNone) st) (fun x _ _ f g Λ st => Hp (fun e a b => bp t x Λ e && f Λ a && g Λ b) st)
  (fun k x _ f Λ st => Hq (fun g i b => j9 (fun y _ => aa Λ y k) g && mq i && bp t x Λ i && f Λ b) st) (fun x _ f Λ st => vQ (fun e b => bp t x Λ e && f Λ b) st) (fun o i Λ st => AN (j8 fun oe ie => bp t o Λ oe && bp t i Λ ie) st) (fun o i Λ st => AN (AZ t o i Λ) st)
  (fun _ st => AP st) (fun _ _ => true) (fun _ kl => kl.isEmpty) (fun _ _ f g Λ kl => match kl with | st :: r => f Λ st && g Λ r | [] => false) x
end
section
variable {d : Nat} {c : Cl}
theorem zr {names : List (Str × NameKind)} {y : Str} (h : wz names y = true) : (names.any fun (n, k) => n == y && (k == .local || k == .cell)) = false := by
 rw [List.any_eq_false]
 intro p hp
 rcases Bool.or_eq_true_iff.mp (List.all_eq_true.mp h p hp) with q | q
 ·exact fun z => Bool.false_ne_true ((nk q).symm.trans (a1 z))
 ·exact fun z => Bool.false_ne_true ((n1 q).symm.trans (a2 z))
theorem EX {x : E} {y : Str} {py pos : Pos} {j : Nat} {e : Expr} (l : j1 Λ y j) (h : Lw t Λ y py x e = true) (H : fN t C d c) : gh C d c Λ (.Assign [.Name y py] e pos) (.assign j x) := by
 cases x with
 | comp xe k xi cs => exact tj (P := fun e => gh C d c Λ (.Assign [.Name y py] e pos) (.assign j (.comp xe k xi cs))) (k := fun na v iter ifs scope p => o9 Λ scope v k && mq iter && Nat.beq py.line p.line && wz scope.names y && bp t xi Λ iter && gS t cs (bD Λ scope.names v k) ifs && bp t xe (bD Λ scope.names v k) na) h (fun na v px iter ifs scope p h =>
   mN (bE xi (a2 (a1 (a1 h))) H).os (qX (a1 (a1 (a1 (a1 (a1 (a1 h))))))) (fun f => (CZ cs (a2 (a1 h)) (H.at' f)).imp fun _ _ q => q.2.ot) (fun f => (bE xe (a2 h) (H.at' f)).oe) (n9 (a2 (a1 (a1 (a1 (a1 (a1 h))))))) l (JD (a2 (a1 (a1 (a1 (a1 h)))))) (zr (a2 (a1 (a1 (a1 h))))))
 | bS => exact (fun _ w _ => w.elim)
 | _ => exact wk (bE _ (a2 h) H).oe l (nt (a1 h))
theorem CY (x : SL) : ∀ {Λ kl C}, iY t x Λ kl = true -> fN t C d c -> pz C d c Λ kl x := by
 refine @SL.rec (motive_1 := fun x => ∀ {Λ st C}, Qo t x Λ st = true -> fN t C d c -> gh C d c Λ st x) (motive_2 := fun x => ∀ {Λ kl C}, iY t x Λ kl = true -> fN t C d c -> pz C d c Λ kl x) ?_ ?_ ?_ ?_ ?_ ?_ ?_ ?_ ?_ ?_ ?_ ?_ ?_ ?_ ?_ ?_ ?_ x
 ·exact fun j x Λ st C h H => gZ (P := fun st => gh C d c Λ st _) (k := fun g e _ => Hw t j x Λ g e) h fun g e p h => gC (P := fun g => gh C d c Λ (.Assign [g] e p) _) h fun y py h => EX (wI (a1 h)) (a2 h) H
 ·exact fun ks x Λ st C h H => gZ (P := fun st => gh C d c Λ st _) (k := fun g e _ => Hu t ks x Λ g e) h fun g e p h => rq (P := fun g => gh C d c Λ (.Assign [g] e p) _) h fun es n q h => wj (AU (a1 (a1 h))) (bE x (a2 h) H).oe (EF (a2 (a1 h)))
 ·exact fun o a x Λ st C h H => gZ (P := fun st => gh C d c Λ st _) (k := fun g e _ => AY t o a x Λ g e) h fun g e p h => iA (P := fun g => gh C d c Λ (.Assign [g] e p) _) h fun oe n q h =>
   have y := hZ H (a1 (a1 (a1 (a1 h)))); tN H.cls (bE o (a2 (a1 h)) H).oe (bE x (a2 h) H).oe y.1 (H.ar _ (a2 (a1 (a1 (a1 h))))) y.2 (nt (a2 (a1 (a1 h))))
 ·exact fun o i x Λ st C h H => gZ (P := fun st => gh C d c Λ st _) (k := fun g e _ => AX t o i x Λ g e) h fun g e p h => gY (P := fun g => gh C d c Λ (.Assign [g] e p) _) h fun oe ie q h => tM (bE o (a2 (a1 (a1 h))) H).oe (bE i (a2 (a1 h)) H).oe (bE x (a2 h) H).oe (nt (a1 (a1 (a1 h))))
 ·exact fun o a op x Λ st C h H => DW (P := fun st => gh C d c Λ st _) (k := Hv t o a op x Λ) h fun g e p h => iA (P := fun g => gh C d c Λ (.AugAssign g _ e p) _) h fun oe n q h =>
   have y := hZ H (a1 (a1 (a1 (a1 h)))); Ej (of_decide_eq_true (a2 (a1 (a1 h)))) H.cls (bE o (a2 (a1 h)) H).oe (bE x (a2 h) H).oe y.1 (H.ar _ (a2 (a1 (a1 (a1 h))))) y.2
 ·exact fun x Λ st C h H => AJ (P := fun st => gh C d c Λ st _) (k := fun e => tY e && bp t x Λ e) h fun e p h => Bw (bE x (a2 h) H).oe (nt (a1 h))
 ·exact fun x Λ st C h H => xK (P := fun st => gh C d c Λ st _) (k := d7 (bp t x Λ)) h fun o p h => fv (P := fun o => gh C d c Λ (.Return o p) _) h fun e h => Ef (bE x h H).oe
 ·exact fun {Λ st C} h H => xK (P := fun st => gh C d c Λ st _) (k := fun e => e.isNone) h fun o p h => Option.isNone_iff_eq_none.mp h ▸ tO
 ·exact fun x a b f g Λ st C h H => DT (P := fun st => gh C d c Λ st _) (k := fun e l r => bp t x Λ e && iY t a Λ l && iY t b Λ r) h fun e l r p h => Eg (bE x (a1 (a1 h)) H).ot (f (a2 (a1 h)) H) (g (a2 h) H)
 ·exact fun k x b f Λ st C h H => DU (P := fun st => gh C d c Λ st _) (k := fun g i r => j9 (fun y _ => aa Λ y k) g && mq i && bp t x Λ i && iY t b Λ r) h fun g i r p h => gC (P := fun g => gh C d c Λ (.For g i r [] p) _) (a1 (a1 (a1 h))) fun y py hy =>
   Eh (bE x (a2 (a1 h)) H).os (fun F => f (a2 h) (H.at' F)) (wI hy) (n9 (a2 (a1 (a1 h))))
 ·exact fun x b f Λ st C h H => yW (P := fun st => gh C d c Λ st _) (k := fun e r => bp t x Λ e && iY t b Λ r) h fun e r p h => zl (bE x (a1 h) H).ot (f (a2 h) H)
 ·exact fun o i Λ st C h H => xM (P := fun st => gh C d c Λ st _) (k := j8 fun oe ie => bp t o Λ oe && bp t i Λ ie) h fun g p h => gY (P := fun g => gh C d c Λ (.Delete [g] p) _) h fun oe ie q h => Ei (bE o (a1 h) H).oe (bE i (a2 h) H).oe
 ·exact fun o i Λ st C h H => xM (P := fun st => gh C d c Λ st _) (k := AZ t o i Λ) h fun g p h => gY (P := fun g => gh C d c Λ (.Delete [g] p) _) h fun oe ie q h => i0 (P := fun ie => gh C d c Λ (.Delete [.Subscript oe ie q] p) _) (a2 h) fun lo hi q' h' => by
   rw [Option.isNone_iff_eq_none.mp (a1 h')]
   exact fv (P := fun lo => gh C d c Λ (.Delete [.Subscript oe (.Slice lo none none q') q] p) _) (a2 h') fun e h' => tP (bE o (a1 h) H).oe (bE i h' H).oe
 ·exact fun {Λ st C} h H => AO (P := fun st => gh C d c Λ st _) h fun p => Bx
 ·exact fun {Λ st C} h H => fun _ w _ => w.elim
 ·exact fun {Λ st C} h H => List.isEmpty_iff.mp h ▸ Bv
 ·exact fun x xs f g Λ kl C h H => by
   cases kl with
   | nil => cases h
   | cons s r => exact zk (f (a1 h) H) (g (a2 h) H)
end
end
variable {K : Frag}
section
noncomputable def xR (K : Frag) (a : Addr) (k : List Value -> Bool) : Bool := match K.lookup a with
 | some ob => (match ob.cls with | .type c => c == "tuple" | _ => false) && ob.dict.isNone && ob.slots.toList.isEmpty && (match ob.data with | .seq vs _ => k vs.toList | _ => false)
 | none => false
theorem A3 {K : Frag} {a : Addr} {k : List Value -> Bool} (h : xR K a k = true) : ∃ vs n, K.lookup a = some (nM vs n) /\ k vs.toList = true := by
 unfold xR at h
 cases e : K.lookup a with
 | none => rw [e] at h; cases h
 | some ob =>
  rw [e] at h
  obtain ⟨cls, dict, data, slots⟩ := ob
  have h1 := a1 (a1 (a1 h))
  have h2 := Option.isNone_iff_eq_none.mp (a2 (a1 (a1 h)))
  have h3 := Array.toList_inj.mp ((List.isEmpty_iff.mp (a2 (a1 h))).trans (show [] = (#[] : Array (Option Value)).toList from rfl))
  have h4 := a2 h
  cases h2
  cases h3
  cases cls <;> first | (cases data <;> first | (cases eq_of_beq h1; exact ⟨_, _, rfl, h4⟩) | exact absurd h4 Bool.false_ne_true) | exact absurd h1 Bool.false_ne_true
noncomputable def DR (K : Frag) (nm : Nat -> Str) (len : Nat) (x : V) : Value -> Bool := @V.rec (fun _ => Value -> Bool) (fun _ => List Value -> Bool)
 (fun v => match v with | .none => true | _ => false) (fun b v => match v with | .bool c => decide (b = c) | _ => false) (fun i v => match v with | .int j _ => decide (i = j) | _ => false) (fun k v => match v with | .str x _ => Nat.blt k len && same (nm k) x | _ => false)
 (fun l f v => match v with | .ref a => Nat.ble l.length 1000000 && xR K a f | _ => false) (fun _ _ => false) (fun vs => vs.isEmpty) (fun _ _ f g vs => match vs with | v :: vs => f v && g vs | [] => false) x
noncomputable def Az (K : Frag) (nm : Nat -> Str) (len : Nat) (l : List V) : List Value -> Bool := @V.rec_1 (fun _ => Value -> Bool) (fun _ => List Value -> Bool)
 (fun v => match v with | .none => true | _ => false) (fun b v => match v with | .bool c => decide (b = c) | _ => false) (fun i v => match v with | .int j _ => decide (i = j) | _ => false) (fun k v => match v with | .str x _ => Nat.blt k len && same (nm k) x | _ => false)
 (fun l f v => match v with | .ref a => Nat.ble l.length 1000000 && xR K a f | _ => false) (fun _ _ => false) (fun vs => vs.isEmpty) (fun _ _ f g vs => match vs with | v :: vs => f v && g vs | [] => false) l
section
variable {v : Value} {vs : List Value}
theorem rm (X : K.In h) (x : V) : ∀ {v}, DR K T.nm T.len x v = true -> VR T [] h x v := by
 refine @V.rec (motive_1 := fun x => ∀ {v}, DR K T.nm T.len x v = true -> VR T [] h x v) (motive_2 := fun l => ∀ {vs}, Az K T.nm T.len l vs = true -> eQ T [] h l vs) ?_ ?_ ?_ ?_ ?_ ?_ ?_ ?_ x
 ·exact fun {v} e => by cases v <;> first | exact .none | exact absurd e Bool.false_ne_true
 ·exact fun b v e => by cases v <;> first | exact of_decide_eq_true e ▸ .bool b | exact absurd e Bool.false_ne_true
 ·exact fun i v e => by cases v <;> first | exact of_decide_eq_true e ▸ .int i _ | exact absurd e Bool.false_ne_true
 ·exact fun k v e => by cases v <;> first | exact cA (a2 e) ▸ .str k _ (Nat.blt_eq.mp (a1 e)) | exact absurd e Bool.false_ne_true
 ·intro l f v e
  cases v with
  | ref a => obtain ⟨vs, n, hl, hv⟩ := A3 (a2 e); exact .ae (X _ _ hl) (f hv) (Nat.le_of_ble_eq_true (a1 e))
  | _ => exact absurd e Bool.false_ne_true
 ·exact fun _ {v} e => absurd e Bool.false_ne_true
 ·exact fun {vs} e => List.isEmpty_iff.mp e ▸ .nil
 ·intro x xs f g vs e
  cases vs with
  | nil => cases e
  | cons v vs => exact .cons (f (a1 e)) (g (a2 e))
theorem Ay (X : K.In h) {l : List V} : ∀ {vs}, Az K T.nm T.len l vs = true -> eQ T [] h l vs := by
 induction l with
 | nil => exact fun e => List.isEmpty_iff.mp e ▸ .nil
 | cons x xs ih =>
  intro vs e
  cases vs with
  | nil => cases e
  | cons v vs => exact .cons (rm X x (a1 e)) (ih (a2 e))
end
noncomputable def n6 : List Str -> Bool
 | [] => true
 | x :: r => (r.all fun y => !same x y) && n6 r
noncomputable def wx : List Nat -> Bool
 | [] => true
 | x :: r => (r.all fun y => !Nat.beq x y) && wx r
theorem qw {l : List Str} (h : n6 l = true) : l.Nodup := by
 induction l with
 | nil => exact .nil
 | cons x r ih => exact List.nodup_cons.mpr ⟨fun q => Bool.false_ne_true ((n1 (List.all_eq_true.mp (a1 h) x q)).symm.trans jN), ih (a2 h)⟩
theorem FC {l : List (Str × Nat)} {x y : Str} {k : Nat} (h : wx (l.map (·.2)) = true) (hx : l.lookup x = some k) (hy : l.lookup y = some k) : x = y := by
 have no : ∀ {z : Str} {p : Str × Nat} {r : List (Str × Nat)}, ((r.map (·.2)).all fun y => !Nat.beq p.2 y) = true -> r.lookup z = some p.2 -> False := fun h q =>
  Bool.false_ne_true ((n1 (List.all_eq_true.mp h _ (List.mem_map.mpr ⟨_, bI q, rfl⟩))).symm.trans (Nat.beq_refl _))
 induction l with
 | nil => cases hx
 | cons p r ih =>
  rw [bQ] at hx hy
  by_cases ex : x = p.1
  ·rw [if_pos ex] at hx
   by_cases ey : y = p.1
   ·exact ex.trans ey.symm
   ·rw [if_neg ey] at hy; exact (no (a1 h) (hy.trans hx.symm)).elim
  ·rw [if_neg ex] at hx
   by_cases ey : y = p.1
   ·rw [if_pos ey] at hy; exact (no (a1 h) (hx.trans hy.symm)).elim
   ·rw [if_neg ey] at hy; exact ih (a2 h) hx hy
noncomputable def Bu (cL : List (Str × Nat)) : List Str -> Nat -> Bool
 | [], _ => true
 | x :: r, i => JU x cL i && Bu cL r (i + 1)
theorem Bt {cL : List (Str × Nat)} {ns : List Str} : ∀ {i : Nat}, Bu cL ns i = true -> ∀ (j : Nat) x, ns[j]? = some x -> cL.lookup x = some (i + j) := by
 induction ns with
 | nil => exact fun _ j x h => nomatch h
 | cons y r ih =>
  intro i h j x hj
  cases j with
  | zero => exact Option.some.inj hj ▸ wK (a1 h)
  | succ j => rw [ih (a2 h) j x hj, Nat.succ_add]; rfl
noncomputable def G2 (t : Tb) (cL : List (Nat × Nat)) : List (Str × Nat) := cL.map fun p => (t.nm p.1, p.2)
noncomputable def xX (K : Frag) (D : FuncData) : Bool := !D.scope.isCoroutine && !D.scope.isGenerator && codeIn K D.code D.qualname && decide (D.scope.kind = .function) && Nat.beq D.globals mainGlobals && Nat.beq D.builtins builtinsNs && D.closure.isEmpty
noncomputable def rK (t : Tb) (fd : aL) (cL : List (Str × Nat)) (D : FuncData) : Bool :=
 D.params.posonlyargs.isEmpty && D.params.kwonlyargs.isEmpty && D.params.vararg.isNone && D.params.kwarg.isNone && n6 (D.params.args.map (·.arg)) && Nat.beq (D.params.args.map (·.arg)).length fd.cX && Bu cL (D.params.args.map (·.arg)) 0
noncomputable def vY (K : Frag) (a : Addr) (k : List Value -> Bool) : Bool := match K.lookup a with | some ob => (match ob.data with | .seq vs _ => k vs.toList | _ => false) | none => false
noncomputable def o8 (K : Frag) (t : Tb) (fd : aL) (D : FuncData) : Bool := Nat.ble fd.bk.length fd.cX && (match D.defaults with | .none => fd.bk.isEmpty | .ref T => vY K T (Az K t.nm t.len fd.bk) | _ => false)
noncomputable def sQ (cL : List (Str × Nat)) (D : FuncData) : Bool := wx (cL.map (·.2)) && (cL.all fun p => B4 p.1 D.scope.names .local || B4 p.1 D.scope.names .cell) && n6 (D.scope.names.map (·.1))
noncomputable def oK (K : Frag) (a : Addr) (t : Tb) (fd : aL) (cL : List (Str × Nat)) : Bool := match K.lookup a with
 | some ob => (match ob.data with
  | .func D => (match D.body with | .stmts body => xX K D && rK t fd cL D && o8 K t fd D && sQ cL D && iY t fd.body ⟨D.scope.names, cL⟩ body | _ => false)
  | _ => false)
 | none => false
theorem zf {K : Frag} {a : Addr} {k : List Value -> Bool} (h : vY K a k = true) : ∃ o bx n, K.lookup a = some o /\ o.data = .seq bx n /\ k bx.toList = true := by
 unfold vY at h
 cases el : K.lookup a with
 | none => rw [el] at h; cases h
 | some ob =>
  rw [el] at h
  obtain ⟨cls, dict, data, slots⟩ := ob
  cases data <;> first | exact ⟨_, _, _, rfl, rfl, h⟩ | exact absurd h Bool.false_ne_true
theorem zU {C : Cx} {t : Tb} {fd : aL} {D : FuncData} (zE : t.nm = C.T.nm) (cQ : t.len = C.T.len) (h : o8 C.K t fd D = true) : (D.defaults = .none /\ fd.bk = []) \/ (∃ T o bx n, D.defaults = .ref T /\ C.K.lookup T = some o /\ o.data = .seq bx n /\ eQ C.T [] C.bN fd.bk bx.toList) := by
 have h := a2 h
 generalize D.defaults = v at h
 cases v with
 | none => exact .inl ⟨rfl, List.isEmpty_iff.mp h⟩
 | ref T => obtain ⟨o, bx, n, h1, h2, h3⟩ := zf h; exact .inr ⟨T, o, bx, n, rfl, h1, h2, Ay C.hK (zE ▸ cQ ▸ h3)⟩
 | _ => exact absurd h Bool.false_ne_true
theorem CE {C : Cx} {t : Tb} {f : Nat} {fd : aL} {cL : List (Str × Nat)} (zE : t.nm = C.T.nm) (cQ : t.len = C.T.len) (h : oK C.K (C.dB f) t fd cL = true) : ∃ D ob body Λ ns, Ai C f fd D ob body Λ ns /\ iY t fd.body Λ body = true := by
 unfold oK at h
 cases el : C.K.lookup (C.dB f) with
 | none => rw [el] at h; cases h
 | some ob =>
  rw [el] at h
  cases ed : ob.data with
  | func D =>
   have h : (match D.body with | .stmts body => xX C.K D && rK t fd cL D && o8 C.K t fd D && sQ cL D && iY t fd.body ⟨D.scope.names, cL⟩ body | _ => false) = true := by
    have h : (match ob.data with | .func D => (match D.body with | .stmts body => xX C.K D && rK t fd cL D && o8 C.K t fd D && sQ cL D && iY t fd.body ⟨D.scope.names, cL⟩ body | _ => false) | _ => false) = true := h
    rw [ed] at h; exact h
   cases eb : D.body with
   | stmts body =>
    rw [eb] at h
    have hs := a1 (a1 (a1 (a1 h)))
    have hp := a2 (a1 (a1 (a1 h)))
    have hc := a2 (a1 h)
    exact ⟨D, ob, body, ⟨D.scope.names, cL⟩, D.params.args.map (fun a : Arg => a.arg), {
     lO := el, data := ed, co := n1 (a1 (a1 (a1 (a1 (a1 (a1 hs)))))), gen := n1 (a2 (a1 (a1 (a1 (a1 (a1 hs)))))), body := eb, code := a2 (a1 (a1 (a1 (a1 hs)))), kind := of_decide_eq_true (a2 (a1 (a1 (a1 hs)))), aq := Nat.eq_of_beq_eq_true (a2 (a1 (a1 hs))), blt := Nat.eq_of_beq_eq_true (a2 (a1 hs)), Se := List.isEmpty_iff.mp (a2 hs), names := rfl
     rM := ⟨List.isEmpty_iff.mp (a1 (a1 (a1 (a1 (a1 (a1 hp)))))), List.isEmpty_iff.mp (a2 (a1 (a1 (a1 (a1 (a1 hp)))))), Option.isNone_iff_eq_none.mp (a2 (a1 (a1 (a1 (a1 hp))))), Option.isNone_iff_eq_none.mp (a2 (a1 (a1 (a1 hp)))), rfl, qw (a2 (a1 (a1 hp)))⟩
     rJ := Nat.eq_of_beq_eq_true (a2 (a1 hp)), wd := fun i x hx => Nat.zero_add i ▸ Bt (a2 hp) i x hx, Sa := zU zE cQ (a2 (a1 (a1 h))), FA := Nat.le_of_ble_eq_true (a1 (a2 (a1 (a1 h)))), slots := fun x y k => FC (a1 (a1 hc)),
     yl := fun x k hx => (Bool.or_eq_true_iff.mp (List.all_eq_true.mp (a2 (a1 hc)) _ (bI hx))).imp gu gu, nodup := qw (a2 hc) }, a2 h⟩
   | _ => rw [eb] at h; exact absurd h Bool.false_ne_true
  | _ =>
   have h : (match ob.data with | .func D => (match D.body with | .stmts body => xX C.K D && rK t fd cL D && o8 C.K t fd D && sQ cL D && iY t fd.body ⟨D.scope.names, cL⟩ body | _ => false) | _ => false) = true := h
   rw [ed] at h; exact absurd h Bool.false_ne_true
noncomputable def xl (K : Frag) (t : Tb) : List aL -> List (Addr × List (Nat × Nat)) -> Bool
 | [], _ => true
 | fd :: r, l => (match l with | p :: q => oK K p.1 t fd (G2 t p.2) && xl K t r q | [] => false)
theorem zM {K : Frag} {t : Tb} {l : List aL} : ∀ {q : List (Addr × List (Nat × Nat))}, xl K t l q = true -> ∀ (j : Nat) fd, l[j]? = some fd -> ∃ p, q[j]? = some p /\ oK K p.1 t fd (G2 t p.2) = true := by
 induction l with
 | nil => exact fun _ j fd h => nomatch h
 | cons x r ih =>
  intro q h j fd hj
  cases q with
  | nil => cases h
  | cons p q =>
   cases j with
   | zero => cases Option.some.inj hj; exact ⟨p, rfl, a1 h⟩
   | succ j => exact ih (a2 h) j fd hj
theorem He {C : Cx} {t : Tb} (zE : t.nm = C.T.nm) (cQ : t.len = C.T.len) (H : ∀ d c, (∀ g, eX (C.aW g) d c) -> fN t C d c) (Jg : ∀ (f : Nat) fd, PR.zN[f]? = some fd -> ∃ cL, oK C.K (C.dB f) t fd cL = true) (d : Nat) : ∀ g, eX (C.aW g) d (cl d) := by
 induction d with
 | zero => exact fun g _ _ _ _ _ _ _ _ _ w _ _ _ _ => w.out.elim
 | succ d ih =>
  intro g f args σ Φ A μ s vs R w Rm S rs q
  have w := w.out
  cases hf : PR.zN[f]? with
  | none => exact (show (match PR.zN[f]? with | none => False | some _ => _) from w) |> fun w => by rw [hf] at w; exact w.elim
  | some fd =>
   obtain ⟨cL, hc⟩ := Jg f fd hf
   obtain ⟨D, ob, body, Λ, ns, F, hb⟩ := CE (C := C.aW g) zE cQ hc
   exact Fp F (CY fd.body hb ((H d _ ih).at' g)) hf w Rm S rs q
theorem JH {C : Cx} {t : Tb} (zE : t.nm = C.T.nm) (cQ : t.len = C.T.len) (H : ∀ d c, (∀ g, eX (C.aW g) d c) -> fN t C d c) (Jg : ∀ (f : Nat) fd, PR.zN[f]? = some fd -> ∃ cL, oK C.K (C.dB f) t fd cL = true) (d : Nat) : eX C d (cl d) := He zE cQ H Jg d C.mZ
end
section
open PySem PySem.W PyProof.Rows
noncomputable section
noncomputable abbrev pw : Program := PySem.Challenge.pw_xm0557_01
noncomputable def LA (s : Stmt) : Bool := match s with | .FunctionDef .. => true | _ => false
noncomputable def Jt (s : Stmt) : List Stmt := match s with | .FunctionDef .. => [s] | .ClassDef _ _ _ b _ _ _ _ _ _ _ => b.filter LA | _ => []
noncomputable def FZ : List Stmt := pw.main.body.flatMap Jt
noncomputable def sv (s : String) (t : Nat) : Value := .str (Str.ofString s) t
noncomputable abbrev rf (a : Nat) : Value := .ref a
noncomputable abbrev iv (i : Int) (t : Nat) : Value := .int i t
noncomputable def tu (l : List Value) : Obj := { cls := .type "tuple", data := .seq l.toArray }
noncomputable def fi (l : List Value) : Obj := { cls := .none, data := .fields l.toArray }
noncomputable def dk (P : Params) (l : List (String × Nat × Value)) (n : Nat) : Obj := { cls := .type "dict", data := .dict (l.map fun e => { hash := PyData.keyHash P (Str.ofString e.1), key := sv e.1 e.2.1, val := e.2.2 }).toArray n }
noncomputable def ki (l : List (Nat × Nat × Value)) (n : Nat) : Obj := { cls := .type "dict", data := .dict (l.map fun e => { hash := (e.1 : Int), key := .int (e.1 : Int) e.2.1, val := e.2.2 }).toArray n }
noncomputable def Fw (t : Nat) : Value := sv "/claim/cut.py" t
noncomputable def cc (n : String) (t line b : Nat) : Obj := { cls := .type "code", data := .fields #[sv n t, sv n (t + 1), Fw (t + 2), .int line 0, .int 0 0, .int 0 0, .int 0 0, .int 0 0, .ref b, .bool false, .int 181 0, .ref (b + 1), .none, .none, .none, .none, .int (t + 3 : Nat) 0, .int line 0, Fw (t + 4)] }
noncomputable def bm (n : String) (v : Value) : Obj := { cls := .type "builtin_function_or_method", data := .fields #[.builtin n, v] }
noncomputable def gs (l : List Value) : Obj := { cls := .type "getset_descriptor", data := .fields l.toArray }
noncomputable def su (a : Nat) : Obj := { cls := .type "super", data := .fields #[.ref a, .ref a, .ref a] }
noncomputable def fr (a b : Nat) (v : Value) : Obj := { cls := .type "frame", slots := #[some (.ref a), some (.ref 3), some (.ref b), none, some v, none, some (.ref 0)] }
noncomputable def zY (n : String) (bases mro : List Value) (ns : Nat) (vT : List Value) (b : Option Value) (t u : Nat) (nw : String) : Obj :=
 {cls := .type "type", data := .cls { name := Str.ofString n, bases := bases, mro := mro, ns := ns, qualname := Str.ofString n, subclasses := vT }, slots := #[b, none, some (sv n t), some (sv n u), some (.builtin nw), some (.bool true)] }
noncomputable def K7 (t : Nat) : List Str -> List Value
 | [] => []
 | x :: r => .str x t :: K7 (t + 1) r
noncomputable def fO (gX : Bool) (i : Nat) (pre : String) (m df : Value) (a t : Nat) : List Obj := match FZ.getD i (.Pass ⟨0, 0, 0, 0⟩) with
 | .FunctionDef n args body _ _ _ sc _ _ p =>
  let q := Str.ofString pre ++ n
  let vs := cond gX (sc.names.filterMap fun x => match x.2 with | .local => some x.1 | _ => none) []
  let k := cond gX 4 2
  let tk := t + 3 + vs.length
  let nm := args.args.length
  [tu [], fi []] ++ cond gX [tu (K7 (t + 3) vs), tu []] [] ++
  [{ cls := .none, data := .func { name := n, qualname := q, params := args, body := .stmts body, scope := sc, globals := 0, closure := [], defaults := .none, kwdefaults := .none } },
   {cls := .type "code", data := .fields #[.str n t, .str q (t + 1), Fw (t + 2), .int p.line 0, .int nm 0, .int 0 0, .int 0 0, .int 3 0, .ref a, .bool true, .int 181 0, .ref (a + 1), .none, cond gX (.ref (a + 2)) .none, cond gX (.ref (a + 3)) .none, .ref (a + k), .int tk 0, .int p.line 0, Fw (tk + 1)] },
   {cls := .type "function", data := .func { name := n, qualname := q, params := args, body := .stmts body, scope := sc, globals := 3, closure := [], defaults := df, kwdefaults := .none, pyModule := m, code := .ref (a + k + 1) } }]
 | _ => []
noncomputable def S2 : List (String × Nat × Value) := [("__doc__", 166, .none), ("__package__", 167, .none), ("__loader__", 168, .builtin "__main__.__loader__#opaque"), ("__spec__", 169, .none), ("__annotations__", 170, rf 6), ("__builtins__", 171, rf 4), ("__file__", 173, sv "/claim/cut.py" 172), ("__cached__", 174, .none), ("_wall", 193, rf 21), ("U_ANY", 197, iv 1 196), ("U_PROP", 199, iv 3 198), ("U_READONLY", 201, iv 4 200), ("U_INDEX", 203, iv 5 202), ("U_ENUM", 205, iv 10 204), ("U_OPTION", 207, iv 11 206), ("U_VAR", 209, iv 15 208), ("KeepError", 240, rf 39), ("TooDeep", 269, rf 60), ("HostFault", 296, rf 80), ("Notes", 347, rf 120), ("Y_KEY", 351, iv 1 350), ("Y_BOOL", 353, iv 2 352), ("Y_STR", 355, iv 3 354), ("Y_NUM", 357, iv 4 356), ("Y_ENUM", 359, iv 5 358), ("Y_UNION", 361, iv 6 360), ("Y_INTER", 363, iv 7 362), ("Y_OBJ", 365, iv 8 364), ("Y_REF", 367, iv 9 366), ("Y_PARAM", 369, iv 10 368), ("Y_ARRAY", 371, iv 11 370), ("Y_TUPLE", 373, iv 12 372), ("Y_SIG", 375, iv 13 374), ("Y_KEYOF", 377, iv 14 376), ("Y_INDEX", 379, iv 15 378), ("Y_COND", 381, iv 16 380), ("Y_MAPPED", 383, iv 17 382), ("Y_TPL", 385, iv 18 384), ("Y_ALIAS", 387, iv 19 386), ("ANY", 389, iv 0 388), ("UNKNOWN", 391, iv 1 390), ("NEVER", 393, iv 2 392), ("VOID", 395, iv 3 394), ("UNDEF", 397, iv 4 396), ("NULLT", 399, iv 5 398), ("STRING", 401, iv 6 400), ("NUMBER", 403, iv 7 402), ("FALSE_T", 405, iv 8 404), ("TRUE_T", 407, iv 9 406), ("OBJECTT", 409, iv 10 408), ("EMPTY", 411, iv 11 410), ("ERR", 413, iv 13 412), ("FRESH_F", 415, iv 14 414), ("FRESH_T", 417, iv 15 416), ("P_OPT", 419, iv 1 418), ("P_READONLY", 421, iv 2 420), ("P_PRIVATE", 423, iv 8 422), ("P_PROTECTED", 425, iv 16 424), ("FAM_OTHER", 427, iv 0 426), ("FAM_STR", 429, iv 1 428), ("FAM_NUM", 431, iv 2 430), ("FAM_BOOL", 433, iv 3 432), ("FAM_NULL", 435, iv 4 434), ("FAM_UNDEF", 437, iv 5 436), ("FAM_VOID", 439, iv 6 438), ("FAM_OBJ", 441, iv 7 440), ("MAX_UNION", 443, iv 400 442), ("FIRST_ROWS", 465, rf 147), ("LITERAL_ROWS", 466, rf 148), ("MARKED_ROWS", 467, rf 149), ("OBJECT_ROWS", 468, rf 150), ("KEY_FAMILIES", 475, rf 151), ("KID_SPANS", 491, rf 152), ("TypeTable", 546, rf 188), ("Decl", 591, rf 209), ("str_type", 601, rf 221), ("func_type", 609, rf 228), ("new_param", 624, rf 236), ("new_decl", 634, rf 243), ("parts_of", 643, rf 250), ("whole_of_row", 651, rf 257), ("regular_twin", 660, rf 264), ("join_bools", 667, rf 271), ("stays_beside", 676, rf 278), ("top_of", 684, rf 285), ("union", 690, rf 290), ("without", 696, rf 295), ("add_undef", 704, rf 302), ("is_literal", 712, rf 309), ("is_fresh", 721, rf 316), ("regular_one", 729, rf 323), ("common_family", 735, rf 328), ("meet_family", 746, rf 335), ("family", 757, rf 342), ("is_nullish_family", 764, rf 349), ("index_kids", 771, rf 356), ("sig_kids", 777, rf 361), ("object_kids", 783, rf 366), ("row_kids", 789, rf 371), ("row_binds", 796, rf 378), ("inner_kids", 806, rf 385), ("reached", 817, rf 392), ("row_free", 829, rf 399), ("free_round", 835, rf 404), ("free_params", 841, rf 409), ("has_params", 849, rf 416), ("may_be_nullish", 864, rf 424), ("mapped_may_be_nullish", 874, rf 431), ("meet_may_be_nullish", 880, rf 436), ("MOST_PLAIN", 884, iv 40 883), ("PLAIN_ROWS", 885, rf 437), ("LIST_ROWS_shapes", 886, rf 438), ("final_parts", 900, rf 445), ("plain_shape", 910, rf 452), ("MOST_ROUNDS", 914, iv 200 913), ("MOST_SHAPES", 916, iv 40 915), ("Thin", 1102, rf 595), ("bound_of", 1112, rf 606), ("is_digits", 1118, rf 611), ("R_ASSIGN", 1122, iv 1 1121), ("R_COMPARE", 1124, iv 2 1123), ("R_IDENT", 1126, iv 3 1125), ("R_SUBTYPE", 1128, iv 4 1127), ("RULE_MEET", 1130, iv 1 1129), ("RULE_DEFERRED", 1132, iv 2 1131), ("RULE_SIG", 1134, iv 3 1133), ("RULE_LIST", 1136, iv 4 1135), ("RULE_OBJECT", 1138, iv 5 1137), ("RULE_CHOICE", 1140, iv 6 1139), ("RULE_PLACES", 1142, iv 12 1141), ("VALUE_ROWS", 1143, rf 612), ("LIST_ROWS_relbase", 1144, rf 613), ("SHAPED_ROWS", 1145, rf 614), ("DEFERRED_ROWS", 1146, rf 615), ("OPEN_ROWS", 1147, rf 617), ("MAX_OPEN", 1149, iv 60 1148), ("MOST_LOOKS", 1151, iv 20000 1150), ("RelRule", 1220, rf 662), ("Rel", 1313, rf 725), ("by_rule", 1324, rf 736), ("silent_with", 1333, rf 743), ("twin_of", 1340, rf 750), ("cut_back", 1348, rf 757), ("settled", 1356, rf 764), ("ask_kinds", 1367, rf 771), ("relbase_kept", 1379, rf 778), ("close_trail", 1388, rf 785), ("tells", 1395, rf 792), ("taken_wider", 1404, rf 799), ("simple_related", 1417, rf 806), ("tops_related", 1426, rf 813), ("unknown_told", 1435, rf 820), ("is_numeric_enum", 1442, rf 827), ("values_related", 1453, rf 834), ("number_to_enum", 1463, rf 841), ("structured", 1475, rf 848), ("rule_for", 1483, rf 855), ("from_union", 1493, rf 862), ("some_part", 1505, rf 869), ("lay_again", 1514, rf 876), ("to_union", 1526, rf 883), ("same_kind", 1538, rf 890), ("each_in", 1548, rf 897), ("own_param", 1558, rf 904), ("pid_bound", 1567, rf 911), ("HIDDEN", 1571, iv 24 1570), ("MEMBER_ROWS", 1572, rf 913), ("LIST_NAMES", 1593, rf 914), ("shown_keys", 1599, rf 919), ("named_keys", 1608, rf 926), ("loosely_kept", 1614, rf 931), ("may_stay", 1620, rf 936), ("member_of", 1629, rf 943), ("is_empty_object", 1636, rf 950), ("to_mapped", 1648, rf 957), ("index_noted", 1659, rf 964), ("keeps_marks", 1669, rf 971), ("own_members", 1679, rf 978), ("has_readonly", 1685, rf 983), ("by_members", 1698, rf 990), ("mark_rank", 1705, rf 997), ("keys_lie", 1716, rf 1004), ("keys_and_marks", 1725, rf 1011), ("mark_notes", 1734, rf 1018), ("key_notes", 1745, rf 1025), ("mapped_pair", 1755, rf 1032), ("BoundHost", 1789, rf 1056), ("ParamRule", 1817, rf 1075), ("param_related", 1828, rf 1084), ("install_rel_params", 1835, rf 1091), ("_law_base", 1868, rf 1092), ("_law_take", 1878, rf 1099), ("_law_kind", 1884, rf 1104), ("_law_object", 1895, rf 1111), ("_law_row", 1909, rf 1118), ("_law_worlds", 1923, rf 1125), ("_law_source", 1949, rf 1132), ("_law_tried", 1970, rf 1139), ("_law_codes", 1976, rf 1144), ("_law_asked", 1982, rf 1149), ("law", 1988, rf 1154)]
noncomputable def o3 (P : Params) (n : Nat) (v : Value) : Obj := dk P (("__name__", 165, v) :: S2.take n) (n + 1)
noncomputable def UW : List Value := [iv 1 0, iv 0 0, rf 20, iv 12 0, iv 0 0, rf 27, iv 17 0, iv 0 0, rf 48, iv 22 0, iv 0 0, rf 68, iv 27 0, iv 0 0, rf 88, iv 94 0, iv 0 0, rf 163, iv 120 0, iv 0 0, rf 198, iv 138 0, iv 0 0, rf 220, iv 140 0, iv 0 0, rf 227, iv 142 0, iv 0 0, rf 235, iv 148 0, iv 0 0, rf 242, iv 152 0, iv 0 0, rf 249, iv 159 0, iv 0 0, rf 256, iv 168 0, iv 0 0, rf 263, iv 173 0, iv 0 0, rf 270, iv 177 0, iv 0 0, rf 277, iv 181 0, iv 0 0, rf 284, iv 186 0, iv 0 0, rf 289, iv 203 0, iv 0 0, rf 294, iv 205 0, iv 0 0, rf 301, iv 207 0, iv 0 0, rf 308, iv 209 0, iv 0 0, rf 315, iv 212 0, iv 0 0, rf 322, iv 216 0, iv 0 0, rf 327, iv 220 0, iv 0 0, rf 334, iv 229 0, iv 0 0, rf 341, iv 246 0, iv 0 0, rf 348, iv 248 0, iv 0 0, rf 355, iv 250 0, iv 0 0, rf 360, iv 256 0, iv 0 0, rf 365, iv 261 0, iv 0 0, rf 370, iv 277 0, iv 0 0, rf 377, iv 285 0, iv 0 0, rf 384, iv 291 0, iv 0 0, rf 391, iv 300 0, iv 0 0, rf 398, iv 311 0, iv 0 0, rf 403, iv 318 0, iv 0 0, rf 408, iv 334 0, iv 0 0, rf 415, iv 337 0, iv 0 0, rf 423, iv 353 0, iv 0 0, rf 430, iv 356 0, iv 0 0, rf 435, iv 365 0, iv 0 0, rf 444, iv 381 0, iv 0 0, rf 451, iv 399 0, iv 0 0, rf 458, iv 461 0, iv 0 0, rf 605, iv 467 0, iv 0 0, rf 610, iv 489 0, iv 0 0, rf 623, iv 505 0, iv 0 0, rf 672, iv 541 0, iv 0 0, rf 735, iv 544 0, iv 0 0, rf 742, iv 549 0, iv 0 0, rf 749, iv 555 0, iv 0 0, rf 756, iv 559 0, iv 0 0, rf 763, iv 564 0, iv 0 0, rf 770, iv 582 0, iv 0 0, rf 777, iv 607 0, iv 0 0, rf 784, iv 613 0, iv 0 0, rf 791, iv 615 0, iv 0 0, rf 798, iv 618 0, iv 0 0, rf 805, iv 634 0, iv 0 0, rf 812, iv 651 0, iv 0 0, rf 819, iv 658 0, iv 0 0, rf 826, iv 660 0, iv 0 0, rf 833, iv 674 0, iv 0 0, rf 840, iv 681 0, iv 0 0, rf 847, iv 690 0, iv 0 0, rf 854, iv 700 0, iv 0 0, rf 861, iv 708 0, iv 0 0, rf 868, iv 722 0, iv 0 0, rf 875, iv 728 0, iv 0 0, rf 882, iv 741 0, iv 0 0, rf 889, iv 750 0, iv 0 0, rf 896, iv 756 0, iv 0 0, rf 903, iv 758 0, iv 0 0, rf 910, iv 765 0, iv 0 0, rf 918, iv 770 0, iv 0 0, rf 925, iv 775 0, iv 0 0, rf 930, iv 782 0, iv 0 0, rf 935, iv 784 0, iv 0 0, rf 942, iv 786 0, iv 0 0, rf 949, iv 788 0, iv 0 0, rf 956, iv 807 0, iv 0 0, rf 963, iv 816 0, iv 0 0, rf 970, iv 819 0, iv 0 0, rf 977, iv 828 0, iv 0 0, rf 982, iv 832 0, iv 0 0, rf 989, iv 848 0, iv 0 0, rf 996, iv 850 0, iv 0 0, rf 1003, iv 856 0, iv 0 0, rf 1010, iv 862 0, iv 0 0, rf 1017, iv 867 0, iv 0 0, rf 1024, iv 882 0, iv 0 0, rf 1031, iv 894 0, iv 0 0, rf 1038, iv 902 0, iv 0 0, rf 1064, iv 906 0, iv 0 0, rf 1083, iv 912 0, iv 0 0, rf 1090, iv 916 0, iv 0 0, rf 1098, iv 921 0, iv 0 0, rf 1103, iv 924 0, iv 0 0, rf 1110, iv 938 0, iv 0 0, rf 1117, iv 948 0, iv 0 0, rf 1124, iv 959 0, iv 0 0, rf 1131, iv 1001 0, iv 0 0, rf 1138, iv 1020 0, iv 0 0, rf 1143, iv 1023 0, iv 0 0, rf 1148, iv 1065 0, iv 0 0, rf 1153]
noncomputable def mP (n : Nat) : Obj := fi (UW.take n)
noncomputable def o2 (P : Params) : Obj := { dk P [("type.__subclasses__.Exception.0", 237, (iv 39 0)), ("type.__subclasses__.Exception.n", 238, (iv 1 0))] 2 with cls := .none }
noncomputable def mO (vT : List Value) : Obj := (zY "KeepError" [.type "Exception"] [rf 39, .type "Exception", .type "BaseException", .type "object"] 38 vT (some (rf 22)) 210 218 "Exception.__new__")
noncomputable def eT (vT : List Value) : Obj := (zY "Thin" [(.type "object")] [(rf 595), (.type "object")] 594 vT none 917 925 "object.__new__")
noncomputable def eS (vT : List Value) : Obj := (zY "RelRule" [(.type "object")] [(rf 662), (.type "object")] 661 vT none 1152 1160 "object.__new__")
noncomputable def nZ (P : Params) (b2 o3 mP mO eT eS : Obj) : List Obj :=
 [boot_o_0 P, boot_o_1 P, b2, o3, boot_o_4 P, boot_o_5 P, boot_o_6 P, boot_o_7 P, boot_o_8 P, boot_o_9 P, boot_o_10 P, tu [], mP, cc "<module>" 182 1 11, fr 13 3 (sv "__main__" 164)] ++
 fO true 0 "" (sv "__main__" 164) .none 15 187 ++
 [tu [.type "Exception"], bm "type.__prepare__" (.type "type"), dk P [("__module__", 217, sv "kindkeep.diags" 194), ("__qualname__", 219, sv "KeepError" 218), ("__firstlineno__", 221, iv 12 220), ("__init__", 230, rf 36), ("__static_attributes__", 233, rf 37)] 5, tu [], fi [iv 14 0, iv 4 0, rf 35], cc "KeepError" 212 12 25, fr 27 24 (sv "kindkeep.diags" 194), tu [sv "" 222]] ++
 fO true 1 "KeepError." (sv "kindkeep.diags" 194) (rf 29) 30 223 ++
 [tu [sv "number" 231, sv "text" 232], dk P [("__module__", 217, sv "kindkeep.diags" 194), ("__firstlineno__", 221, iv 12 220), ("__init__", 230, rf 36), ("__static_attributes__", 233, rf 37), ("__weakref__", 235, rf 40), ("__doc__", 236, .none)] 3, mO, gs [sv "__weakref__" 234, rf 39, .builtin "ExceptionGroup.__weakref__", .none], su 39, bm "object.__init_subclass__" (rf 39), tu [rf 39], bm "type.__prepare__" (.type "type"), dk P [("__module__", 248, sv "kindkeep.diags" 194), ("__qualname__", 250, sv "TooDeep" 249), ("__firstlineno__", 252, iv 17 251), ("__init__", 263, rf 57), ("__static_attributes__", 266, rf 58)] 5, tu [], fi [iv 19 0, iv 4 0, rf 56], cc "TooDeep" 243 17 46, fr 48 45 (sv "kindkeep.diags" 194), tu [iv 2589 253, sv "" 254]] ++
 fO true 2 "TooDeep." (sv "kindkeep.diags" 194) (rf 50) 51 255 ++
 [tu [sv "number" 264, sv "text" 265], dk P [("__module__", 248, sv "kindkeep.diags" 194), ("__firstlineno__", 252, iv 17 251), ("__init__", 263, rf 57), ("__static_attributes__", 266, rf 58), ("__doc__", 267, .none)] 2, zY "TooDeep" [rf 39] [rf 60, rf 39, .type "Exception", .type "BaseException", .type "object"] 59 [] (some (rf 43)) 241 249 "Exception.__new__", su 60, bm "object.__init_subclass__" (rf 60), tu [rf 39], bm "type.__prepare__" (.type "type"), dk P [("__module__", 277, sv "kindkeep.diags" 194), ("__qualname__", 279, sv "HostFault" 278), ("__firstlineno__", 281, iv 22 280), ("__init__", 290, rf 77), ("__static_attributes__", 293, rf 78)] 5, tu [], fi [iv 24 0, iv 4 0, rf 76], cc "HostFault" 272 22 66, fr 68 65 (sv "kindkeep.diags" 194), tu [sv "" 282]] ++
 fO true 3 "HostFault." (sv "kindkeep.diags" 194) (rf 70) 71 283 ++
 [tu [sv "number" 291, sv "text" 292], dk P [("__module__", 277, sv "kindkeep.diags" 194), ("__firstlineno__", 281, iv 22 280), ("__init__", 290, rf 77), ("__static_attributes__", 293, rf 78), ("__doc__", 294, .none)] 2, zY "HostFault" [rf 39] [rf 80, rf 39, .type "Exception", .type "BaseException", .type "object"] 79 [] (some (rf 63)) 270 278 "Exception.__new__", su 80, bm "object.__init_subclass__" (rf 80), tu [], bm "type.__prepare__" (.type "type"), dk P [("__module__", 304, sv "kindkeep.diags" 194), ("__qualname__", 306, sv "Notes" 305), ("__firstlineno__", 308, iv 27 307), ("__init__", 315, rf 96), ("put", 324, rf 103), ("codes", 331, rf 110), ("clean", 338, rf 117), ("__static_attributes__", 340, rf 118)] 8, tu [], fi [iv 29 0, iv 4 0, rf 95, iv 32 0, iv 4 0, rf 102, iv 35 0, iv 4 0, rf 109, iv 38 0, iv 4 0, rf 116], cc "Notes" 299 27 86, fr 88 85 (sv "kindkeep.diags" 194)] ++
 fO true 4 "Notes." (sv "kindkeep.diags" 194) .none 90 309 ++
 fO true 5 "Notes." (sv "kindkeep.diags" 194) .none 97 316 ++
 fO true 6 "Notes." (sv "kindkeep.diags" 194) .none 104 325 ++
 fO true 7 "Notes." (sv "kindkeep.diags" 194) .none 111 332 ++
 [tu [sv "rows" 339], dk P [("__module__", 304, sv "kindkeep.diags" 194), ("__firstlineno__", 308, iv 27 307), ("__init__", 315, rf 96), ("put", 324, rf 103), ("codes", 331, rf 110), ("clean", 338, rf 117), ("__static_attributes__", 340, rf 118), ("__dict__", 342, rf 121), ("__weakref__", 344, rf 122), ("__doc__", 345, .none)] 4, zY "Notes" [.type "object"] [rf 120, .type "object"] 119 [] none 297 305 "object.__new__", gs [sv "__dict__" 341, rf 120, .builtin "function.__dict__", .builtin "function.__dict__#set"], gs [sv "__weakref__" 343, rf 120, .builtin "ExceptionGroup.__weakref__", .none], su 120, bm "object.__init_subclass__" (rf 120), tu [iv 1 350, sv "any" 444], tu [iv 1 350, sv "unknown" 445], tu [iv 1 350, sv "never" 446], tu [iv 1 350, sv "void" 447], tu [iv 1 350, sv "undefined" 448], tu [iv 1 350, sv "null" 449], tu [iv 1 350, sv "string" 450], tu [iv 1 350, sv "number" 451], tu [iv 2 352, iv 0 452, iv 0 453], tu [iv 2 352, iv 1 454, iv 0 455], tu [iv 1 350, sv "object" 456], tu [], tu [], tu [], tu [], tu [], tu [iv 8 364, rf 136, rf 137, rf 138, rf 139, rf 140, iv 0 457], tu [iv 8 458, iv 9 459], tu [iv 6 360, rf 142], tu [iv 1 350, sv "error" 460], tu [iv 2 352, iv 0 461, iv 1 462], tu [iv 2 352, iv 1 463, iv 1 464], tu [rf 125, rf 126, rf 127, rf 128, rf 129, rf 130, rf 131, rf 132, rf 133, rf 134, rf 135, rf 141, rf 143, rf 144, rf 145, rf 146], tu [iv 2 352, iv 3 354, iv 4 356, iv 5 358], tu [iv 2 352, iv 3 354, iv 4 356, iv 5 358, iv 8 364], tu [iv 8 364, iv 9 366, iv 11 370, iv 12 372, iv 13 374], ki [(3, 394, iv 6 438), (4, 396, iv 5 436), (5, 398, iv 4 434), (6, 400, iv 1 428), (7, 402, iv 2 430), (10, 408, iv 7 440)] 6, ki [(11, 370, rf 153), (14, 376, rf 154), (15, 378, rf 155), (16, 380, rf 156), (17, 382, rf 157)] 5, tu [iv 1 476, iv 2 477], tu [iv 1 478, iv 2 479], tu [iv 1 480, iv 3 481], tu [iv 1 482, iv 5 483], tu [iv 2 484, iv 5 485], tu [], bm "type.__prepare__" (.type "type"), dk P [("__module__", 499, sv "kindkeep.types" 348), ("__qualname__", 501, sv "TypeTable" 500), ("__firstlineno__", 503, iv 94 502), ("__init__", 511, rf 171), ("row", 519, rf 178), ("put", 528, rf 185), ("__static_attributes__", 539, rf 186)] 7, tu [], fi [iv 96 0, iv 4 0, rf 170, iv 110 0, iv 4 0, rf 177, iv 113 0, iv 4 0, rf 184], cc "TypeTable" 494 94 161, fr 163 160 (sv "kindkeep.types" 348)] ++
 fO true 8 "TypeTable." (sv "kindkeep.types" 348) .none 165 504 ++
 fO true 9 "TypeTable." (sv "kindkeep.types" 348) .none 172 512 ++
 fO true 10 "TypeTable." (sv "kindkeep.types" 348) .none 179 520 ++
 [tu [sv "bounds" 529, sv "decls" 530, sv "defaults" 531, sv "index" 532, sv "names" 533, sv "origins" 534, sv "putting" 535, sv "renamed" 536, sv "rows" 537, sv "shaping" 538], dk P [("__module__", 499, sv "kindkeep.types" 348), ("__firstlineno__", 503, iv 94 502), ("__init__", 511, rf 171), ("row", 519, rf 178), ("put", 528, rf 185), ("__static_attributes__", 539, rf 186), ("__dict__", 541, rf 189), ("__weakref__", 543, rf 190), ("__doc__", 544, .none)] 4, zY "TypeTable" [.type "object"] [rf 188, .type "object"] 187 [] none 492 500 "object.__new__", gs [sv "__dict__" 540, rf 188, .builtin "function.__dict__", .builtin "function.__dict__#set"], gs [sv "__weakref__" 542, rf 188, .builtin "ExceptionGroup.__weakref__", .none], su 188, bm "object.__init_subclass__" (rf 188), tu [], bm "type.__prepare__" (.type "type"), dk P [("__module__", 554, sv "kindkeep.types" 348), ("__qualname__", 556, sv "Decl" 555), ("__firstlineno__", 558, iv 120 557), ("__init__", 568, rf 206), ("__static_attributes__", 584, rf 207)] 5, tu [], fi [iv 122 0, iv 4 0, rf 205], cc "Decl" 549 120 196, fr 198 195 (sv "kindkeep.types" 348)] ++
 fO true 11 "Decl." (sv "kindkeep.types" 348) .none 200 559 ++
 [tu [sv "abstract" 569, sv "at" 570, sv "bases" 571, sv "body" 572, sv "busy" 573, sv "did" 574, sv "extends_class" 575, sv "file" 576, sv "kind" 577, sv "members" 578, sv "name" 579, sv "nid" 580, sv "params" 581, sv "static" 582, sv "variances" 583], dk P [("__module__", 554, sv "kindkeep.types" 348), ("__firstlineno__", 558, iv 120 557), ("__init__", 568, rf 206), ("__static_attributes__", 584, rf 207), ("__dict__", 586, rf 210), ("__weakref__", 588, rf 211), ("__doc__", 589, .none)] 4, zY "Decl" [.type "object"] [rf 209, .type "object"] 208 [] none 547 555 "object.__new__", gs [sv "__dict__" 585, rf 209, .builtin "function.__dict__", .builtin "function.__dict__#set"], gs [sv "__weakref__" 587, rf 209, .builtin "ExceptionGroup.__weakref__", .none], su 209, bm "object.__init_subclass__" (rf 209), tu [iv 0 592]] ++
 fO true 12 "" (sv "kindkeep.types" 348) (rf 214) 215 593 ++
 fO true 13 "" (sv "kindkeep.types" 348) .none 222 602 ++
 [(tu [(iv (-1) 611), (iv (-1) 613)])] ++
 fO true 14 "" (sv "kindkeep.types" 348) (rf 229) 230 614 ++
 fO true 15 "" (sv "kindkeep.types" 348) .none 237 625 ++
 fO true 16 "" (sv "kindkeep.types" 348) .none 244 635 ++
 fO true 17 "" (sv "kindkeep.types" 348) .none 251 644 ++
 fO true 18 "" (sv "kindkeep.types" 348) .none 258 652 ++
 fO true 19 "" (sv "kindkeep.types" 348) .none 265 661 ++
 fO true 20 "" (sv "kindkeep.types" 348) .none 272 668 ++
 fO true 21 "" (sv "kindkeep.types" 348) .none 279 677 ++
 fO false 22 "" (sv "kindkeep.types" 348) .none 286 685 ++
 fO false 23 "" (sv "kindkeep.types" 348) .none 291 691 ++
 fO true 24 "" (sv "kindkeep.types" 348) .none 296 697 ++
 fO true 25 "" (sv "kindkeep.types" 348) .none 303 705 ++
 fO true 26 "" (sv "kindkeep.types" 348) .none 310 713 ++
 fO true 27 "" (sv "kindkeep.types" 348) .none 317 722 ++
 fO false 28 "" (sv "kindkeep.types" 348) .none 324 730 ++
 fO true 29 "" (sv "kindkeep.types" 348) .none 329 736 ++
 fO true 30 "" (sv "kindkeep.types" 348) .none 336 747 ++
 fO true 31 "" (sv "kindkeep.types" 348) .none 343 758 ++
 fO true 32 "" (sv "kindkeep.types" 348) .none 350 765 ++
 fO false 33 "" (sv "kindkeep.types" 348) .none 357 772 ++
 fO false 34 "" (sv "kindkeep.types" 348) .none 362 778 ++
 fO false 35 "" (sv "kindkeep.types" 348) .none 367 784 ++
 fO true 36 "" (sv "kindkeep.types" 348) .none 372 790 ++
 fO true 37 "" (sv "kindkeep.types" 348) .none 379 797 ++
 fO true 38 "" (sv "kindkeep.types" 348) .none 386 807 ++
 fO true 39 "" (sv "kindkeep.types" 348) .none 393 818 ++
 fO false 40 "" (sv "kindkeep.types" 348) .none 400 830 ++
 fO false 41 "" (sv "kindkeep.types" 348) .none 405 836 ++
 fO true 42 "" (sv "kindkeep.types" 348) .none 410 842 ++
 [(tu [(iv 0 852)])] ++
 fO true 43 "" (sv "kindkeep.typeops" 850) (rf 417) 418 853 ++
 fO true 44 "" (sv "kindkeep.typeops" 850) .none 425 865 ++
 fO false 45 "" (sv "kindkeep.typeops" 850) .none 432 875 ++
 [(tu [(iv 1 350), (iv 2 352), (iv 3 354), (iv 4 356), (iv 5 358)]), (tu [(iv 11 370), (iv 12 372)])] ++
 fO true 46 "" (sv "kindkeep.shapes" 881) .none 439 887 ++
 fO true 47 "" (sv "kindkeep.shapes" 881) .none 446 901 ++
 [tu [], bm "type.__prepare__" (.type "type"), dk P [("__module__", 924, sv "kindkeep.hosts" 911), ("__qualname__", 926, sv "Thin" 925), ("__firstlineno__", 928, iv 399 927), ("__init__", 936, rf 466), ("force", 944, rf 473), ("put_deferred", 952, rf 480), ("put_cond", 961, rf 487), ("lay_row", 970, rf 494), ("bound", 978, rf 501), ("shape", 986, rf 508), ("fits", 995, rf 515), ("lies", 1004, rf 522), ("infers", 1014, rf 529), ("tpl_fits", 1023, rf 536), ("shape_fits", 1032, rf 543), ("put_in", 1041, rf 550), ("own_sig", 1050, rf 557), ("forget", 1057, rf 564), ("list_prop", 1066, rf 571), ("list_index", 1074, rf 578), ("elem_met", 1082, rf 585), ("error_class", 1089, rf 592), ("__static_attributes__", 1095, rf 593)] 23, tu [], fi [iv 401 0, iv 4 0, rf 465, iv 408 0, iv 4 0, rf 472, iv 411 0, iv 4 0, rf 479, iv 414 0, iv 4 0, rf 486, iv 417 0, iv 4 0, rf 493, iv 420 0, iv 4 0, rf 500, iv 423 0, iv 4 0, rf 507, iv 426 0, iv 4 0, rf 514, iv 429 0, iv 4 0, rf 521, iv 432 0, iv 4 0, rf 528, iv 435 0, iv 4 0, rf 535, iv 438 0, iv 4 0, rf 542, iv 441 0, iv 4 0, rf 549, iv 444 0, iv 4 0, rf 556, iv 447 0, iv 4 0, rf 563, iv 450 0, iv 4 0, rf 570, iv 453 0, iv 4 0, rf 577, iv 456 0, iv 4 0, rf 584, iv 459 0, iv 4 0, rf 591], cc "Thin" 919 399 456, fr 458 455 (sv "kindkeep.hosts" 911)] ++
 fO true 48 "Thin." (sv "kindkeep.hosts" 911) .none 460 929 ++
 fO true 49 "Thin." (sv "kindkeep.hosts" 911) .none 467 937 ++
 fO true 50 "Thin." (sv "kindkeep.hosts" 911) .none 474 945 ++
 fO true 51 "Thin." (sv "kindkeep.hosts" 911) .none 481 953 ++
 fO true 52 "Thin." (sv "kindkeep.hosts" 911) .none 488 962 ++
 fO true 53 "Thin." (sv "kindkeep.hosts" 911) .none 495 971 ++
 fO true 54 "Thin." (sv "kindkeep.hosts" 911) .none 502 979 ++
 fO true 55 "Thin." (sv "kindkeep.hosts" 911) .none 509 987 ++
 fO true 56 "Thin." (sv "kindkeep.hosts" 911) .none 516 996 ++
 fO true 57 "Thin." (sv "kindkeep.hosts" 911) .none 523 1005 ++
 fO true 58 "Thin." (sv "kindkeep.hosts" 911) .none 530 1015 ++
 fO true 59 "Thin." (sv "kindkeep.hosts" 911) .none 537 1024 ++
 fO true 60 "Thin." (sv "kindkeep.hosts" 911) .none 544 1033 ++
 fO true 61 "Thin." (sv "kindkeep.hosts" 911) .none 551 1042 ++
 fO true 62 "Thin." (sv "kindkeep.hosts" 911) .none 558 1051 ++
 fO true 63 "Thin." (sv "kindkeep.hosts" 911) .none 565 1058 ++
 fO true 64 "Thin." (sv "kindkeep.hosts" 911) .none 572 1067 ++
 fO true 65 "Thin." (sv "kindkeep.hosts" 911) .none 579 1075 ++
 fO true 66 "Thin." (sv "kindkeep.hosts" 911) .none 586 1083 ++
 [tu [sv "deep" 1090, sv "lib" 1091, sv "most_deep" 1092, sv "most_rounds" 1093, sv "tab" 1094], dk P [("__module__", 924, sv "kindkeep.hosts" 911), ("__firstlineno__", 928, iv 399 927), ("__init__", 936, rf 466), ("force", 944, rf 473), ("put_deferred", 952, rf 480), ("put_cond", 961, rf 487), ("lay_row", 970, rf 494), ("bound", 978, rf 501), ("shape", 986, rf 508), ("fits", 995, rf 515), ("lies", 1004, rf 522), ("infers", 1014, rf 529), ("tpl_fits", 1023, rf 536), ("shape_fits", 1032, rf 543), ("put_in", 1041, rf 550), ("own_sig", 1050, rf 557), ("forget", 1057, rf 564), ("list_prop", 1066, rf 571), ("list_index", 1074, rf 578), ("elem_met", 1082, rf 585), ("error_class", 1089, rf 592), ("__static_attributes__", 1095, rf 593), ("__dict__", 1097, rf 596), ("__weakref__", 1099, rf 597), ("__doc__", 1100, .none)] 4, eT, gs [sv "__dict__" 1096, rf 595, .builtin "function.__dict__", .builtin "function.__dict__#set"], gs [sv "__weakref__" 1098, rf 595, .builtin "ExceptionGroup.__weakref__", .none], su 595, bm "object.__init_subclass__" (rf 595)] ++
 fO true 67 "" (sv "kindkeep.hosts" 911) .none 600 1103 ++
 fO false 68 "" (sv "kindkeep.hosts" 911) .none 607 1113 ++
 [tu [iv 1 350, iv 2 352, iv 3 354, iv 4 356, iv 5 358], tu [iv 11 370, iv 12 372], tu [iv 8 364, iv 9 366], tu [iv 10 368, iv 14 376, iv 15 378, iv 16 380, iv 17 382, iv 18 384, iv 19 386], tu [iv 6 360, iv 7 362], tu [iv 6 360, iv 7 362, iv 10 368, iv 14 376, iv 15 378, iv 16 380, iv 17 382, iv 18 384, iv 19 386], tu [], bm "type.__prepare__" (.type "type"), dk P [("__module__", 1159, sv "kindkeep.relbase" 1119), ("__qualname__", 1161, sv "RelRule" 1160), ("__firstlineno__", 1163, iv 489 1162), ("holds", 1173, rf 631), ("loose", 1183, rf 638), ("sig", 1193, rf 645), ("blank", 1202, rf 652), ("tells", 1212, rf 659), ("__static_attributes__", 1213, rf 660)] 9, tu [], fi [iv 491 0, iv 4 0, rf 630, iv 494 0, iv 4 0, rf 637, iv 497 0, iv 4 0, rf 644, iv 500 0, iv 4 0, rf 651, iv 503 0, iv 4 0, rf 658], cc "RelRule" 1154 489 621, fr 623 620 (sv "kindkeep.relbase" 1119)] ++
 fO true 69 "RelRule." (sv "kindkeep.relbase" 1119) .none 625 1164 ++
 fO true 70 "RelRule." (sv "kindkeep.relbase" 1119) .none 632 1174 ++
 fO true 71 "RelRule." (sv "kindkeep.relbase" 1119) .none 639 1184 ++
 fO true 72 "RelRule." (sv "kindkeep.relbase" 1119) .none 646 1194 ++
 fO true 73 "RelRule." (sv "kindkeep.relbase" 1119) .none 653 1203 ++
 [tu [], dk P [("__module__", 1159, sv "kindkeep.relbase" 1119), ("__firstlineno__", 1163, iv 489 1162), ("holds", 1173, rf 631), ("loose", 1183, rf 638), ("sig", 1193, rf 645), ("blank", 1202, rf 652), ("tells", 1212, rf 659), ("__static_attributes__", 1213, rf 660), ("__dict__", 1215, rf 663), ("__weakref__", 1217, rf 664), ("__doc__", 1218, .none)] 4, eS, gs [sv "__dict__" 1214, rf 662, .builtin "function.__dict__", .builtin "function.__dict__#set"], gs [sv "__weakref__" 1216, rf 662, .builtin "ExceptionGroup.__weakref__", .none], su 662, bm "object.__init_subclass__" (rf 662), tu [], bm "type.__prepare__" (.type "type"), dk P [("__module__", 1228, sv "kindkeep.relbase" 1119), ("__qualname__", 1230, sv "Rel" 1229), ("__firstlineno__", 1232, iv 505 1231), ("__init__", 1241, rf 680), ("ask", 1250, rf 687), ("note", 1258, rf 694), ("same", 1267, rf 701), ("mark", 1274, rf 708), ("back", 1282, rf 715), ("infer_sig", 1291, rf 722), ("__static_attributes__", 1306, rf 723)] 11, tu [], fi [iv 507 0, iv 4 0, rf 679, iv 523 0, iv 4 0, rf 686, iv 526 0, iv 4 0, rf 693, iv 530 0, iv 4 0, rf 700, iv 533 0, iv 4 0, rf 707, iv 536 0, iv 4 0, rf 714, iv 539 0, iv 4 0, rf 721], cc "Rel" 1223 505 670, fr 672 669 (sv "kindkeep.relbase" 1119)] ++
 fO true 74 "Rel." (sv "kindkeep.relbase" 1119) .none 674 1233 ++
 fO true 75 "Rel." (sv "kindkeep.relbase" 1119) .none 681 1242 ++
 fO true 76 "Rel." (sv "kindkeep.relbase" 1119) .none 688 1251 ++
 fO true 77 "Rel." (sv "kindkeep.relbase" 1119) .none 695 1259 ++
 fO true 78 "Rel." (sv "kindkeep.relbase" 1119) .none 702 1268 ++
 fO true 79 "Rel." (sv "kindkeep.relbase" 1119) .none 709 1275 ++
 fO true 80 "Rel." (sv "kindkeep.relbase" 1119) .none 716 1283 ++
 [tu [sv "assumed" 1292, sv "at" 1293, sv "deep" 1294, sv "host" 1295, sv "known" 1296, sv "looks" 1297, sv "missing" 1298, sv "mode" 1299, sv "notes" 1300, sv "road" 1301, sv "rules" 1302, sv "telling" 1303, sv "trail" 1304, sv "twin" 1305], dk P [("__module__", 1228, sv "kindkeep.relbase" 1119), ("__firstlineno__", 1232, iv 505 1231), ("__init__", 1241, rf 680), ("ask", 1250, rf 687), ("note", 1258, rf 694), ("same", 1267, rf 701), ("mark", 1274, rf 708), ("back", 1282, rf 715), ("infer_sig", 1291, rf 722), ("__static_attributes__", 1306, rf 723), ("__dict__", 1308, rf 726), ("__weakref__", 1310, rf 727), ("__doc__", 1311, .none)] 4, zY "Rel" [.type "object"] [rf 725, .type "object"] 724 [] none 1221 1229 "object.__new__", gs [sv "__dict__" 1307, rf 725, .builtin "function.__dict__", .builtin "function.__dict__#set"], gs [sv "__weakref__" 1309, rf 725, .builtin "ExceptionGroup.__weakref__", .none], su 725, bm "object.__init_subclass__" (rf 725)] ++
 fO true 81 "" (sv "kindkeep.relbase" 1119) .none 730 1314 ++
 fO true 82 "" (sv "kindkeep.relbase" 1119) .none 737 1325 ++
 fO true 83 "" (sv "kindkeep.relbase" 1119) .none 744 1334 ++
 fO true 84 "" (sv "kindkeep.relbase" 1119) .none 751 1341 ++
 fO true 85 "" (sv "kindkeep.relbase" 1119) .none 758 1349 ++
 fO true 86 "" (sv "kindkeep.relbase" 1119) .none 765 1357 ++
 fO true 87 "" (sv "kindkeep.relbase" 1119) .none 772 1368 ++
 fO true 88 "" (sv "kindkeep.relbase" 1119) .none 779 1380 ++
 fO true 89 "" (sv "kindkeep.relbase" 1119) .none 786 1389 ++
 fO true 90 "" (sv "kindkeep.relbase" 1119) .none 793 1396 ++
 fO true 91 "" (sv "kindkeep.relbase" 1119) .none 800 1405 ++
 fO true 92 "" (sv "kindkeep.relbase" 1119) .none 807 1418 ++
 fO true 93 "" (sv "kindkeep.relbase" 1119) .none 814 1427 ++
 fO true 94 "" (sv "kindkeep.relbase" 1119) .none 821 1436 ++
 fO true 95 "" (sv "kindkeep.relbase" 1119) .none 828 1443 ++
 fO true 96 "" (sv "kindkeep.relbase" 1119) .none 835 1454 ++
 fO true 97 "" (sv "kindkeep.relbase" 1119) .none 842 1464 ++
 fO true 98 "" (sv "kindkeep.relbase" 1119) .none 849 1476 ++
 fO true 99 "" (sv "kindkeep.relbase" 1119) .none 856 1484 ++
 fO true 100 "" (sv "kindkeep.relbase" 1119) .none 863 1494 ++
 fO true 101 "" (sv "kindkeep.relbase" 1119) .none 870 1506 ++
 fO true 102 "" (sv "kindkeep.relbase" 1119) .none 877 1515 ++
 fO true 103 "" (sv "kindkeep.relbase" 1119) .none 884 1527 ++
 fO true 104 "" (sv "kindkeep.relbase" 1119) .none 891 1539 ++
 fO true 105 "" (sv "kindkeep.relsig" 1549) .none 898 1551 ++
 fO true 106 "" (sv "kindkeep.relsig" 1549) .none 905 1559 ++
 [tu [iv 7 362], tu [iv 8 364, iv 9 366, iv 7 362], tu [sv "charAt" 1573, sv "concat" 1574, sv "every" 1575, sv "filter" 1576, sv "forEach" 1577, sv "includes" 1578, sv "indexOf" 1579, sv "join" 1580, sv "length" 1581, sv "map" 1582, sv "pop" 1583, sv "push" 1584, sv "reduce" 1585, sv "reverse" 1586, sv "shift" 1587, sv "slice" 1588, sv "some" 1589, sv "toLowerCase" 1590, sv "toString" 1591, sv "toUpperCase" 1592]] ++
 fO false 107 "" (sv "kindkeep.relkeys" 1568) .none 915 1594 ++
 fO true 108 "" (sv "kindkeep.relkeys" 1568) .none 920 1600 ++
 fO false 109 "" (sv "kindkeep.relkeys" 1568) .none 927 1609 ++
 fO false 110 "" (sv "kindkeep.relkeys" 1568) .none 932 1615 ++
 fO true 111 "" (sv "kindkeep.relkeys" 1568) .none 937 1621 ++
 fO true 112 "" (sv "kindkeep.relkeys" 1568) .none 944 1630 ++
 fO true 113 "" (sv "kindkeep.relkeys" 1568) .none 951 1637 ++
 fO true 114 "" (sv "kindkeep.relkeys" 1568) .none 958 1649 ++
 fO true 115 "" (sv "kindkeep.relkeys" 1568) .none 965 1660 ++
 fO true 116 "" (sv "kindkeep.relkeys" 1568) .none 972 1670 ++
 fO false 117 "" (sv "kindkeep.relkeys" 1568) .none 979 1680 ++
 fO true 118 "" (sv "kindkeep.relkeys" 1568) .none 984 1686 ++
 fO true 119 "" (sv "kindkeep.relkeys" 1568) .none 991 1699 ++
 fO true 120 "" (sv "kindkeep.relkeys" 1568) .none 998 1706 ++
 fO true 121 "" (sv "kindkeep.relkeys" 1568) .none 1005 1717 ++
 fO true 122 "" (sv "kindkeep.relkeys" 1568) .none 1012 1726 ++
 fO true 123 "" (sv "kindkeep.relkeys" 1568) .none 1019 1735 ++
 fO true 124 "" (sv "kindkeep.relkeys" 1568) .none 1026 1746 ++
 [tu [rf 595], bm "type.__prepare__" (.type "type"), dk P [("__module__", 1765, sv "kindkeep.rawhost" 1756), ("__qualname__", 1767, sv "BoundHost" 1766), ("__firstlineno__", 1769, iv 894 1768), ("bound", 1777, rf 1046), ("shape", 1785, rf 1053), ("__static_attributes__", 1786, rf 1054)] 6, tu [], fi [iv 896 0, iv 4 0, rf 1045, iv 899 0, iv 4 0, rf 1052], cc "BoundHost" 1760 894 1036, fr 1038 1035 (sv "kindkeep.rawhost" 1756)] ++
 fO true 125 "BoundHost." (sv "kindkeep.rawhost" 1756) .none 1040 1770 ++
 fO true 126 "BoundHost." (sv "kindkeep.rawhost" 1756) .none 1047 1778 ++
 [tu [], dk P [("__module__", 1765, sv "kindkeep.rawhost" 1756), ("__firstlineno__", 1769, iv 894 1768), ("bound", 1777, rf 1046), ("shape", 1785, rf 1053), ("__static_attributes__", 1786, rf 1054), ("__doc__", 1787, .none)] 2, zY "BoundHost" [rf 595] [rf 1056, rf 595, .type "object"] 1055 [] (some (rf 1033)) 1758 1766 "object.__new__", su 1056, bm "object.__init_subclass__" (rf 1056), tu [rf 662], bm "type.__prepare__" (.type "type"), dk P [("__module__", 1799, sv "kindkeep.relopen" 1790), ("__qualname__", 1801, sv "ParamRule" 1800), ("__firstlineno__", 1803, iv 902 1802), ("holds", 1813, rf 1072), ("__static_attributes__", 1814, rf 1073)] 5, tu [], fi [iv 904 0, iv 4 0, rf 1071], cc "ParamRule" 1794 902 1062, fr 1064 1061 (sv "kindkeep.relopen" 1790)] ++
 fO true 127 "ParamRule." (sv "kindkeep.relopen" 1790) .none 1066 1804 ++
 [tu [], dk P [("__module__", 1799, sv "kindkeep.relopen" 1790), ("__firstlineno__", 1803, iv 902 1802), ("holds", 1813, rf 1072), ("__static_attributes__", 1814, rf 1073), ("__doc__", 1815, .none)] 2, zY "ParamRule" [rf 662] [rf 1075, rf 662, .type "object"] 1074 [] (some (rf 1059)) 1792 1800 "object.__new__", su 1075, bm "object.__init_subclass__" (rf 1075)] ++
 fO true 128 "" (sv "kindkeep.relopen" 1790) .none 1078 1818 ++
 fO true 129 "" (sv "kindkeep.relopen" 1790) .none 1085 1829 ++
 [tu [iv 0 1838, iv 0 1839, iv 1 1840, iv 1 1841, iv 2 1842, iv 0 1843, iv 1 1844, iv 0 1845, iv 0 1846, iv 0 1847, iv 0 1848, iv 5 1849, iv 5 1850, iv 1 1851, iv 1 1852, iv 3 1853, iv 0 1854, iv 1 1855, iv 2 1856, iv 0 1857, iv 7 1858, iv 1 1859, iv 1 1860, iv 0 1861, iv 0 1862, iv 0 1863, iv 1 1864, iv 0 1865, iv 0 1866, iv 0 1867]] ++
 fO true 130 "" (sv "law_xm0557_01" 1836) .none 1093 1869 ++
 fO false 131 "" (sv "law_xm0557_01" 1836) .none 1100 1879 ++
 fO true 132 "" (sv "law_xm0557_01" 1836) .none 1105 1885 ++
 fO true 133 "" (sv "law_xm0557_01" 1836) .none 1112 1896 ++
 fO true 134 "" (sv "law_xm0557_01" 1836) .none 1119 1910 ++
 fO true 135 "" (sv "law_xm0557_01" 1836) .none 1126 1924 ++
 fO true 136 "" (sv "law_xm0557_01" 1836) .none 1133 1950 ++
 fO false 137 "" (sv "law_xm0557_01" 1836) .none 1140 1971 ++
 fO false 138 "" (sv "law_xm0557_01" 1836) .none 1145 1977 ++
 fO false 139 "" (sv "law_xm0557_01" 1836) .none 1150 1983
noncomputable def Fi : List Obj -> Bool -> List Obj
 | [], _ => []
 | x :: r, b => cond b (x :: Fi r false) (Fi r true)
noncomputable def eV : Nat -> List Obj -> BT
 | 0, _ => .nil
 | f + 1, l => match l with
  | [] => .nil
  | x :: r => .node x (eV f (Fi r true)) (eV f (Fi r false))
noncomputable def T0 (P : Params) : BT := eV 12 ((nZ P (boot_o_2 P) (boot_o_3 P) (mP 0) (mO []) (eT []) (eS [])).take 15)
noncomputable def T1 (P : Params) : BT := eV 12 ((nZ P (o2 P) (o3 P 17 (sv "kindkeep.diags" 194)) (mP 6) (mO []) (eT []) (eS [])).take 43)
noncomputable def T2 (P : Params) : BT := eV 12 ((nZ P (o2 P) (o3 P 18 (sv "kindkeep.diags" 194)) (mP 9) (mO [rf 60]) (eT []) (eS [])).take 63)
noncomputable def T3 (P : Params) : BT := eV 12 ((nZ P (o2 P) (o3 P 19 (sv "kindkeep.diags" 194)) (mP 12) (mO [rf 60, rf 80]) (eT []) (eS [])).take 83)
noncomputable def T4 (P : Params) : BT := eV 12 ((nZ P (o2 P) (o3 P 28 (sv "kindkeep.types" 348)) (mP 15) (mO [rf 60, rf 80]) (eT []) (eS [])).take 125)
noncomputable def T5 (P : Params) : BT := eV 12 ((nZ P (o2 P) (o3 P 67 (sv "kindkeep.types" 348)) (mP 15) (mO [rf 60, rf 80]) (eT []) (eS [])).take 125)
noncomputable def T6 (P : Params) : BT := eV 12 ((nZ P (o2 P) (o3 P 73 (sv "kindkeep.types" 348)) (mP 15) (mO [rf 60, rf 80]) (eT []) (eS [])).take 158)
noncomputable def T7 (P : Params) : BT := eV 12 ((nZ P (o2 P) (o3 P 74 (sv "kindkeep.types" 348)) (mP 18) (mO [rf 60, rf 80]) (eT []) (eS [])).take 193)
noncomputable def T8 (P : Params) : BT := eV 12 ((nZ P (o2 P) (o3 P 79 (sv "kindkeep.types" 348)) (mP 33) (mO [rf 60, rf 80]) (eT []) (eS [])).take 244)
noncomputable def T9 (P : Params) : BT := eV 12 ((nZ P (o2 P) (o3 P 92 (sv "kindkeep.types" 348)) (mP 72) (mO [rf 60, rf 80]) (eT []) (eS [])).take 329)
noncomputable def VS (P : Params) : BT := eV 12 ((nZ P (o2 P) (o3 P 105 (sv "kindkeep.types" 348)) (mP 111) (mO [rf 60, rf 80]) (eT []) (eS [])).take 410)
noncomputable def So (P : Params) : BT := eV 12 ((nZ P (o2 P) (o3 P 116 (sv "kindkeep.hosts" 911)) (mP 129) (mO [rf 60, rf 80]) (eT []) (eS [])).take 453)
noncomputable def VQ (P : Params) : BT := eV 12 ((nZ P (o2 P) (o3 P 117 (sv "kindkeep.hosts" 911)) (mP 132) (mO [rf 60, rf 80]) (eT []) (eS [])).take 600)
noncomputable def VP (P : Params) : BT := eV 12 ((nZ P (o2 P) (o3 P 137 (sv "kindkeep.relbase" 1119)) (mP 138) (mO [rf 60, rf 80]) (eT []) (eS [])).take 618)
noncomputable def VO (P : Params) : BT := eV 12 ((nZ P (o2 P) (o3 P 138 (sv "kindkeep.relbase" 1119)) (mP 141) (mO [rf 60, rf 80]) (eT []) (eS [])).take 667)
noncomputable def Sn (P : Params) : BT := eV 12 ((nZ P (o2 P) (o3 P 139 (sv "kindkeep.relbase" 1119)) (mP 144) (mO [rf 60, rf 80]) (eT []) (eS [])).take 730)
noncomputable def VN (P : Params) : BT := eV 12 ((nZ P (o2 P) (o3 P 151 (sv "kindkeep.relbase" 1119)) (mP 180) (mO [rf 60, rf 80]) (eT []) (eS [])).take 814)
noncomputable def VM (P : Params) : BT := eV 12 ((nZ P (o2 P) (o3 P 163 (sv "kindkeep.relsig" 1549)) (mP 216) (mO [rf 60, rf 80]) (eT []) (eS [])).take 898)
noncomputable def VL (P : Params) : BT := eV 12 ((nZ P (o2 P) (o3 P 176 (sv "kindkeep.relkeys" 1568)) (mP 246) (mO [rf 60, rf 80]) (eT []) (eS [])).take 965)
noncomputable def Sm (P : Params) : BT := eV 12 ((nZ P (o2 P) (o3 P 186 (sv "kindkeep.rawhost" 1756)) (mP 276) (mO [rf 60, rf 80]) (eT []) (eS [])).take 1033)
noncomputable def VK (P : Params) : BT := eV 12 ((nZ P (o2 P) (o3 P 187 (sv "kindkeep.relopen" 1790)) (mP 279) (mO [rf 60, rf 80]) (eT [rf 1056]) (eS [])).take 1059)
noncomputable def VJ (P : Params) : BT := eV 12 ((nZ P (o2 P) (o3 P 192 (sv "law_xm0557_01" 1836)) (mP 291) (mO [rf 60, rf 80]) (eT [rf 1056]) (eS [rf 1075])).take 1100)
noncomputable def N6 (P : Params) : BT := eV 12 ((nZ P (o2 P) (o3 P 201 (sv "law_xm0557_01" 1836)) (mP 318) (mO [rf 60, rf 80]) (eT [rf 1056]) (eS [rf 1075])).take 1155)
noncomputable abbrev z4 : Pos := ⟨0, 0, 0, 0⟩
noncomputable abbrev bB : List Stmt := behindTheImports pw
noncomputable def lS : PySem.Env := { scope := pw.main.scope, locals := mainNs, globals := mainNs, cells := [], code := .ref 13, frame := some 14 }
noncomputable abbrev cB : Code := .body bB lS
noncomputable abbrev ST (t : BT) (n k : Nat) (os : OsState) : SharedT := { tree := t, n := n, life := {}, gens := { toList := [] }, drawn := {}, toks := k, os := os }
noncomputable abbrev kl (a n : Nat) : List Stmt := (bB.drop a).take n
end
end
section
open PySem PySem.W PyProof.Rows
theorem SV (w : World) (os : OsState) : segRunT treeTable pw w 11 (some (.ref 6)) 1 1583 (ST (T0 w.params) 15 187 os) (piecesOf (kl 0 61) lS cB z4 [topFrame z4]) = some (.next, ST (T5 w.params) 125 444 os, cB, ⟨87, 0, 87, 9⟩) := by kernel_rfl
end
section
open PySem PySem.W PyProof.Rows
theorem SX (w : World) (os : OsState) : segRunT treeTable pw w 11 (some (.ref 6)) 1 361 (ST (T5 w.params) 125 444 os) (piecesOf (kl 61 6) lS cB ⟨87, 0, 87, 9⟩ [topFrame z4]) = some (.next, ST (T6 w.params) 158 492 os, cB, ⟨93, 0, 93, 9⟩) :=
 byRow2 "special-get-raises" (P := fun w => segRunT treeTable pw w 11 (some (.ref 6)) 1 361 (ST (T5 w.params) 125 444 os) (piecesOf (kl 61 6) lS cB ⟨87, 0, 87, 9⟩ [topFrame z4]) = some (.next, ST (T6 w.params) 158 492 os, cB, ⟨93, 0, 93, 9⟩)) (fun w => by kernel_rfl) (fun w => by kernel_rfl) w
end
section
open PySem PySem.W PyProof.Rows
theorem SU (w : World) (os : OsState) : segRunT treeTable pw w 11 (some (.ref 6)) 1 1723 (ST (T6 w.params) 158 492 os) (piecesOf (kl 67 46) lS cB ⟨93, 0, 93, 9⟩ [topFrame z4]) = some (.next, ST (So w.params) 453 917 os, cB, ⟨398, 0, 398, 11⟩) := by kernel_rfl
end
section
open PySem PySem.W PyProof.Rows
theorem SR (w : World) (os : OsState) : segRunT treeTable pw w 11 (some (.ref 6)) 1 1889 (ST (So w.params) 453 917 os) (piecesOf (kl 113 24) lS cB ⟨398, 0, 398, 11⟩ [topFrame z4]) = some (.next, ST (Sn w.params) 730 1314 os, cB, ⟨505, 0, 540, 17⟩) := by kernel_rfl
end
section
open PySem PySem.W PyProof.Rows
theorem SQ (w : World) (os : OsState) : segRunT treeTable pw w 11 (some (.ref 6)) 1 1480 (ST (Sn w.params) 730 1314 os) (piecesOf (kl 137 50) lS cB ⟨505, 0, 540, 17⟩ [topFrame z4]) = some (.next, ST (Sm w.params) 1033 1758 os, cB, ⟨893, 0, 893, 8⟩) := by kernel_rfl
end
section
open PySem PySem.W PyProof.Rows
theorem SP (w : World) (os : OsState) : segRunT treeTable pw w 11 (some (.ref 6)) 1 977 (ST (Sm w.params) 1033 1758 os) (piecesOf (kl 187 17) lS cB ⟨893, 0, 893, 8⟩ [topFrame z4]) = some (.next, ST (N6 w.params) 1155 1989 os, cB, ⟨1065, 0, 1077, 48⟩) := by kernel_rfl
end
section
open PySem PySem.W PyProof.Rows
noncomputable section
theorem Ms : opening pw = plainProg pw.main.scope.names := by kernel_rfl
theorem Jk (s : Shared) : fenceModules? pw s = some s := by kernel_rfl
noncomputable abbrev S4 (w : World) (os : OsState) : Shared := (ST (T0 w.params) 15 187 os).abs
noncomputable abbrev SF (w : World) (os : OsState) : Shared := (ST (N6 w.params) 1155 1989 os).abs
theorem PU (w : World) (os : OsState) : topGo treeTable pw w 11 (some (.ref 6)) 12 ⟨boot_heap w.params, Array.mk [], boot_drawn, boot_toks, os⟩ (topStub pw) = some (S4 w os, ⟨denote treeTable cB, cB, z4, [topFrame z4]⟩) := by kernel_rfl
theorem Jl (w : World) (os : OsState) : segRun treeTable pw w 11 (some (.ref 6)) 1 1 (S4 w os) (blockOf bB lS cB z4 [topFrame z4]) = some (.next, S4 w os, cB, z4) := by kernel_rfl
theorem PY (w : World) (os : OsState) : topRun treeTable pw w 11 (some (.ref 6)) 2 (SF w os) (restOf (bB.drop 204) lS cB ⟨1065, 0, 1077, 48⟩ [topFrame z4]) = some (SF w os) := by kernel_rfl
theorem qI {w : World} {a n n' N : Nat} {s s' : SharedT} {r : Shared} {p p' : Pos} (hp : segRunT treeTable pw w 11 (some (.ref 6)) 1 n' s (piecesOf (kl a n) lS cB p [topFrame z4]) = some (.next, s', cB, p'))
  (h : topRun treeTable pw w 11 (some (.ref 6)) N s'.abs (restOf (bB.drop (a + n)) lS cB p' [topFrame z4]) = some r) : topRun treeTable pw w 11 (some (.ref 6)) (n' + N) s.abs (restOf (bB.drop a) lS cB p [topFrame z4]) = some r := by
 have := piece_app (segRun_of hp) h
 rwa [<- List.drop_drop, List.take_append_drop] at this
theorem PO (w : World) (os : OsState) : ∃ N, Nat.ble N 9000 = true /\ topRun treeTable pw w 11 (some (.ref 6)) N ⟨boot_heap w.params, Array.mk [], boot_drawn, boot_toks, os⟩ (topStub pw) = some (SF w os) := by
 have h := PY w os
 have h := qI (a := 187) (n := 17) (SP w os) h
 have h := qI (a := 137) (n := 50) (SQ w os) h
 have h := qI (a := 113) (n := 24) (SR w os) h
 have h := qI (a := 67) (n := 46) (SU w os) h
 have h := qI (a := 61) (n := 6) (SX w os) h
 have h := qI (a := 0) (n := 61) (SV w os) h
 exact ⟨_, by decide, go_top (PU w os) (piece_block (Jl w os) h)⟩
noncomputable abbrev H1 (P : Params) : Heap := absHeap (N6 P) 1155 {}
noncomputable abbrev SZ (P : Params) (os : OsState) : Shared := ⟨H1 P, Array.mk [], {}, 1989, os⟩
noncomputable def myQ : Program := view pw [203]
noncomputable def myLoose : List Str := pw.boundNames.filter fun n => n != "law"
end
end
section
open PySem PySem.W PyProof.Rows
noncomputable section
theorem k0 (P : Params) : ((boot_heap P).isNs mainGlobals && (Array.mk ([] : List GenState)).size == 0, (boot_heap P).objs.size, (boot_heap P).nsMap mainGlobals "__annotations__") = (true, 11, some (.ref 6)) := by kernel_rfl
theorem k1 (P : Params) : staticsOk (importedModules pw.main.body) (boot_heap P) (H1 P) = true := by kernel_rfl
theorem k2 (P : Params) : namesBound pw (H1 P) = true := by kernel_rfl
theorem k4 (P : Params) : laidKept (boot_heap P) (H1 P) = true := by kernel_rfl
theorem k5 (P : Params) (os : OsState) : seen ((recsOf myQ).map (·.name)) (ownsOf myQ) [] (SZ P os) = expectedOf myQ := by kernel_rfl
theorem m1 (P : Params) : (H1 P).bltView = bltViewBooted := by kernel_rfl
theorem m2 (P : Params) : (H1 P).keysOk (looseW myQ myLoose) ((recsOf myQ).map (·.name)) ((litsOf myQ).map (·.1)) ((clssOf myQ (looseW myQ myLoose)).map (·.name)) = true := by kernel_rfl
theorem m3 (P : Params) : ((H1 P).accountedOkI (importedModules pw.main.body) && (H1 P).isNs mainGlobals && (H1 P).isNs builtinsNs && tablesOk myQ (H1 P)) = true := by kernel_rfl
theorem m4 (P : Params) (os : OsState) : tabsOk myQ (SZ P os) = true := by kernel_rfl
theorem m5 (P : Params) (os : OsState) : pinSeenD myQ (drecsOf myQ) (SZ P os) = pinGoodD (drecsOf myQ) := by kernel_rfl
theorem m6 (P : Params) (os : OsState) : plainSeenE myQ (looseW myQ myLoose) (SZ P os) = plainGoodE myQ (looseW myQ myLoose) := by kernel_rfl
theorem m7 (P : Params) (os : OsState) : plainSeenD myQ myLoose (SZ P os) = plainGoodD myQ myLoose := by kernel_rfl
theorem m8 (P : Params) (os : OsState) : wideSeen myQ (SZ P os) = wideGood myQ := by kernel_rfl
theorem m9 (P : Params) (os : OsState) : clsSeenW myQ myLoose (SZ P os) = clsGoodW myQ myLoose := by kernel_rfl
end
end
section
open PySem PySem.W PyProof.Rows
noncomputable section
theorem Mq (P : Params) (os : OsState) : openSeen myQ myLoose (importedModules pw.main.body) (fun _ => true) true (SZ P os) = openGood myQ myLoose := by
 unfold openSeen openGood
 have x3 := m3 P
 have hk : ((SZ P os).heap.keysOk (looseW myQ myLoose) ((recsOf myQ).map (·.name)) ((litsOf myQ).map (·.1)) ((clssOf myQ (looseW myQ myLoose)).map (·.name)) && (SZ P os).heap.accountedOkI (importedModules pw.main.body) && (SZ P os).heap.isNs mainGlobals && (SZ P os).heap.isNs builtinsNs && tablesOk myQ (SZ P os).heap && true && (if true = true then (SZ P os).gens.size == 0 else !leftWithCleanup (SZ P os).gens)) = true := by
  have x2 := m2 P
  simp only [Bool.and_eq_true] at x3 ⊢
  exact ⟨⟨⟨⟨⟨⟨x2, x3.1.1.1⟩, x3.1.1.2⟩, x3.1.2⟩, x3.2⟩, trivial⟩, rfl⟩
 exact looks_pair (k5 P os) (looks_pair (m1 P) (looks_pair hk (looks_pair (m4 P os) (looks_pair (m5 P os) (looks_pair (m6 P os) (looks_pair (m7 P os) (looks_pair (m8 P os) (m9 P os))))))))
theorem Ji (P : Params) (os : OsState) : (staticsOk (importedModules pw.main.body) (boot_heap P) (H1 P) && namesBound pw (H1 P) && gensDone (SZ P os) && laidKept (boot_heap P) (H1 P)) = true := by
 have e1 := k1 P
 have e2 := k2 P
 have e4 := k4 P
 simp only [Bool.and_eq_true]
 exact ⟨⟨⟨e1, e2⟩, rfl⟩, e4⟩
theorem UH (w : World) (os : OsState) : SF w os = SZ w.params os := by kernel_rfl
theorem hLeft : LeftO pw myQ myLoose (fun _ => true) (fun s : Shared => s.heap) (fun w => H1 w.params) 9000 true := by
 refine LeftO.of_pieces (m₀ := 11) (ann := some (.ref 6)) (H₀ := boot_heap) (H₁ := H1) (gs₀ := Array.mk []) (gs₁ := Array.mk []) (d₀ := boot_drawn) (d₁ := {}) (k₀ := boot_toks) (k₁ := 1989) (M := 9000)
  (boot_open Ms (by decide) Jk) (fun w => k0 w.params) (fun w os => ?_) (by decide) (fun w => ?_)
 ·obtain ⟨N, hN, h⟩ := PO w os
  have h2 := topRun_mono (9000 - N) _ _ _ _ h
  rw [show N + (9000 - N) = 9000 by have := Nat.le_of_ble_eq_true hN; lia, UH] at h2
  exact h2
 ·funext os
  exact looks_pair (Ji w.params os) (looks_pair (Mq w.params os) rfl)
noncomputable def rL := PySem.Challenge.rw_xm0557_01
theorem Mp : (defOf myQ rL.row.name).isSome = true := by kernel_rfl
noncomputable def myD : DefRec × List (Str × Expr) := (defOf myQ rL.row.name).get Mp
theorem hDef : defOf myQ rL.row.name = some (myD.1, myD.2) := by rw [show (myD.1, myD.2) = myD from rfl]; exact (Option.some_get _).symm
theorem hTheDef : rL.row.prog.theDef rL.row.name = some (myD.1.params, myD.1.body, myD.1.scope) := by kernel_rfl
theorem hKw : kwWritten? myD.1.params.kwonlyargs myD.1.params.kw_defaults = some myD.2 := by kernel_rfl
theorem hOk1 : chainsOk myQ = true := by kernel_rfl
theorem hOk2 : opensWell PySem.Challenge.pw_xm0557_01 = true := by kernel_rfl
theorem hOk3 : (frees rL.row.toRowW && rL.row.within.isEmpty) = true := by kernel_rfl
end
end
section
open PySem PySem.W PyProof.Rows
noncomputable section
theorem look2 {a b : Bool} (x : a = true) (y : b = true) : (a && b) = true := by rw [x, y]; rfl
theorem SK : (sreFenced pw.main) = true := by kernel_rfl
theorem SJ : (((moduleNames pw.main.body).isEmpty || lookedIntoSs (moduleNames pw.main.body) pw.main.body)) = true := by kernel_rfl
theorem SH : (namesResolve pw) = true := by kernel_rfl
theorem SG : (pw.boundNames.all (fun n => !worldNames.contains n)) = true := by kernel_rfl
theorem SE : (noRoadLSs { strict := !(importedModules pw.main.body).all cThrough.contains, foot := none, bare := (["vars", "dir", "locals"] : List Str).filter (readsOut pw pw.main.body) } pw.main.body) = true := by kernel_rfl
theorem SD : (namesMeet pw pw.main.body fun _ n => attrL n) = true := by kernel_rfl
theorem HU : looksOpen pw = true := look2 (look2 (look2 (look2 (look2 SK SJ) SH) SG) SE) SD
end
end
section
open PySem PySem.W PyProof.Rows
noncomputable section
theorem Mr : rL.row.partSaid = true := by
 unfold OpenRow.partSaid
 rw [show looksOpen rL.row.prog = true from HU]
 kernel_rfl
theorem Mo : rL.row.wellSaid = true := by
 unfold OpenRow.wellSaid
 rw [Mr]
 kernel_rfl
theorem tI : (decide (rL.foot <= (behindTheImports rL.prog).length) && rL.footing.all footLine && noClassBlock rL.prog rL.footing && rL.most.all (fun n => decide (63 <= n)) && rL.bound.all (fun n => decide (2 ^ 63 <= n))) = true := by kernel_rfl
theorem KO : noRoadLSs { strict := true, foot := some rL.bound', writes := rL.writes, may := rL.may } rL.footing = true := by kernel_rfl
theorem Bj : (defStands rL.about rL.above && rL.namesIt) = true := by kernel_rfl
theorem HQ : ((["type", "isinstance", "issubclass", "getattr", "hasattr"] : List Str).all (fun n => rL.about != [n])) = true := by kernel_rfl
theorem HV : rL.bound'.all (fun n => !builtinNamed n || rL.about == [n] || !rL.reads n) = true := by kernel_rfl
theorem OH : ((!rL.writes || (rL.prog.main.body.flatMap importedNames).all fun n => !rL.reads n)) = true := by kernel_rfl
theorem KQ : (rL.prog.main.body.flatMap importedNames).all (fun n => !rL.reads n || (drawsOf n rL.prog.main.body).all fun mn => mn.2 != ("attrgetter" : Str) && mn.2 != ("methodcaller" : Str)) = true := by kernel_rfl
theorem KP : namesMeet rL.prog rL.footing (fun sc n => (!(["type", "isinstance", "issubclass", "getattr", "hasattr"] : List Str).contains n || sc.names.lookup n == some .globalImplicit) &&
  (rL.may != some n || sc.kind == .module || sc.names.lookup n == some .globalImplicit)) = true := by kernel_rfl
theorem HR : (rL.own.contains rL.name && rL.own.eraseDups.length == rL.own.length && rL.own.all (fun n => !builtinNamed n)) = true := by kernel_rfl
theorem HT : namesMeet rL.prog rL.above (fun _ n => !rL.own.contains n) = true := by kernel_rfl
theorem HS : namesMeet rL.prog rL.footing (fun sc n => sc.kind == .module || sc.names.lookup n != some .globalExplicit) = true := by kernel_rfl
theorem b1 {a b : Bool} (h : (a && b) = true) : a = true := (Bool.and_eq_true_iff.mp h).1
theorem b2 {a b : Bool} (h : (a && b) = true) : b = true := (Bool.and_eq_true_iff.mp h).2
theorem hSaid : rL.wellSaid = true := (look2 (look2 (look2 (look2 (look2 (look2 (look2 (look2 (look2 (look2 (look2 (look2 (look2 (look2 (look2 (look2 (look2 (look2 Mo (b1 (b1 (b1 (b1 tI))))) (b2 (b1 (b1 (b1 tI))))) (b2 (b1 (b1 tI)))) (b2 (b1 tI))) (b2 tI)) KO) (b1 Bj)) (b2 Bj)) HQ) HV) OH) KQ) KP) (b1 (b1 HR))) (b2 (b1 HR))) (b2 HR)) HT) HS)
theorem Fj : pw.tablesWhole = true := by kernel_rfl
theorem hBare : pw.bare := ⟨rfl, rfl, rfl, rfl, rfl, Fj⟩
theorem hProm : rL.row.toRowW.promised := ⟨[.list []], by decide +kernel, by decide +kernel⟩
end
end
section
open PySem PySem.W PyProof.Rows
noncomputable section
noncomputable def RQ : List (Option Nat) := [none, none, none, none, none, some 44, some 46, some 47, some 50, some 56, some 58, some 63, some 64, some 68, some 70, some 71, some 73, some 75, some 76, some 77, some 81, some 90, some 94, some 95, some 96, some 103, some 106, some 107, some 108, some 109, some 110, some 112, some 114, some 115, some 118] ++ List.replicate 8 none ++ [some 145, some 146, some 148, some 149, some 150, some 153, some 158, some 159, some 161, some 163, some 168, some 170, some 171, some 179, some 180, some 182, some 186, some 187, some 188, some 189, some 191, some 193, some 194, some 195, some 197, some 199, some 200, some 202, some 204, some 205, some 206, some 207, some 208, some 209, none, none, some 210, some 211, some 213, some 216, some 221, some 222, some 224, some 229, some 230, some 231, some 237, some 238]
noncomputable def NQ : List (Option Nat) := [some 336, some 337, some 338, some 339, some 340, some 341]
noncomputable def RO : List (Option V) := List.replicate 16 none ++ [some (.ae [.ae [.int 1, .str 17], .ae [.int 1, .str 18], .ae [.int 1, .str 19], .ae [.int 1, .str 20], .ae [.int 1, .str 21], .ae [.int 1, .str 22], .ae [.int 1, .str 23], .ae [.int 1, .str 24], .ae [.int 2, .int 0, .int 0], .ae [.int 2, .int 1, .int 0], .ae [.int 1, .str 25], .ae [.int 8, .ae [], .ae [], .ae [], .ae [], .ae [], .int 0], .ae [.int 6, .ae [.int 8, .int 9]], .ae [.int 1, .str 26], .ae [.int 2, .int 0, .int 1], .ae [.int 2, .int 1, .int 1]])] ++ List.replicate 26 none ++ [some (.int 3), none, some (.int 10), none, none, some (.int 2), some (.int 6), none, some (.int 18), some (.int 6), some (.int 4), some (.int 7), some (.int 5), none, some (.ae [.int 2, .int 3, .int 4, .int 5, .int 8]), none, some (.int 8), some (.int 14), some (.int 9), some (.int 15), none, none, some (.int 0), some (.int 13), some (.int 1), none, some (.int 400), none, none, some (.int 4), none, some (.ae [.int 2, .int 3, .int 4, .int 5]), none, none, none, some (.int 0), some (.int 7), some (.int 11), none, some (.int 1), none, some (.int 2), some (.int 3), some (.ae [.int 8, .int 9, .int 11, .int 12, .int 13]), some (.int 7), some (.int 1), some (.int 2), none, some (.int 4), some (.int 5), some (.int 6), none, none, none, none, some (.int 8), some (.int 9), some (.int 19), some (.int 12), some (.int 13), none, some (.int 16), some (.int 17), none, none, none, none, none, some (.int 15), none, some (.int 14), none, none, some (.int 40), some (.ae [.int 1, .int 2, .int 3, .int 4, .int 5]), none, none, none, some (.int 200), none, some (.int 40)] ++ List.replicate 23 none ++ [some (.int 3), none, none, none, some (.ae [.int 1, .int 2, .int 3, .int 4, .int 5]), some (.int 2), none, some (.int 20000), some (.int 60), some (.int 15), some (.int 4), none, none, some (.int 1), none, some (.int 3), none, some (.ae [.int 6, .int 7, .int 10, .int 14, .int 15, .int 16, .int 17, .int 18, .int 19]), some (.int 10), some (.int 5), some (.int 3), none, some (.int 1), none, none, some (.int 1), some (.ae [.int 10, .int 14, .int 15, .int 16, .int 17, .int 18, .int 19]), some (.int 2), some (.int 3), some (.ae [.int 11, .int 12]), some (.int 4), some (.int 5), none, none, none, none, some (.ae [.int 8, .int 9]), some (.int 6), some (.int 12)] ++ List.replicate 6 none ++ [some (.int 24), none, none, none, some (.int 11), none, some (.int 5), none, none, some (.int 4), none, some (.int 2)] ++ List.replicate 8 none ++ [some (.ae [.int 0, .int 0, .int 1, .int 1, .int 2, .int 0, .int 1, .int 0, .int 0, .int 0, .int 0, .int 5, .int 5, .int 1, .int 1, .int 3, .int 0, .int 1, .int 2, .int 0, .int 7, .int 1, .int 1, .int 0, .int 0, .int 0, .int 1, .int 0, .int 0, .int 0])] ++ List.replicate 128 none ++ [none]
noncomputable def RS : List (Option (List (Int × V))) := List.replicate 83 none ++ [some [(3, .int 6), (4, .int 5), (5, .int 4), (6, .int 1), (7, .int 2), (10, .int 7)]] ++ List.replicate 13 none ++ [some [(11, .ae [.int 1, .int 2]), (14, .ae [.int 1, .int 2]), (15, .ae [.int 1, .int 3]), (16, .ae [.int 1, .int 5]), (17, .ae [.int 2, .int 5])]] ++ List.replicate 243 none ++ [none]
noncomputable def N4 : List Nat := [4, 7, 8, 9, 10, 11, 12, 13, 14, 15, 27, 28, 29, 30, 31, 32, 33, 34, 35, 36, 37, 38, 39, 41, 42, 119, 120, 122, 124, 125, 128, 129, 130, 131, 132, 133, 134, 135, 136, 137, 138, 139]
noncomputable def J4 : List Nat := [96, 103, 171, 185, 206, 221, 236, 243, 250, 257, 264, 271, 278, 285, 290, 295, 302, 309, 316, 323, 335, 342, 349, 356, 366, 371, 378, 385, 392, 409, 416, 424, 431, 436, 452, 466, 473, 480, 680, 687, 694, 701, 708, 736, 743, 750, 757, 764, 771, 778, 785, 792, 799, 806, 813, 848, 855, 862, 869, 883, 890, 904, 911, 919, 926, 943, 950, 957, 964, 971, 978, 983, 990, 997, 1004, 1011, 1032, 1053, 1072, 1084, 1091, 1099, 1104, 1111, 1118, 1125, 1132, 1139, 1144, 1149, 1154]
noncomputable def U9 : List Nat := [188, 209, 1056, 725, 120, 1075]
noncomputable def Jv : List (List (Nat × Nat)) := [[239], [239, 240, 39], [239, 241], [239, 241, 242], [239, 27, 28, 29], [119, 243, 244], [119, 29, 245, 246, 247], [119, 28, 29, 248], [119, 242, 241], [241, 28], [119, 242, 241], [249], [119, 249, 242], [249, 242], [119, 250, 249, 242, 251, 252, 253], [119, 242, 254], [119, 242], [119, 242], [119, 242, 241], [119, 242], [119, 250, 255, 251, 256], [119, 242, 241, 28, 257], [256], [258], [241, 259, 260], [241, 28, 261, 262], [241], [119, 241, 259, 247], [119, 242, 263, 264, 39], [119, 242, 265, 266, 267, 268, 39], [119, 242], [119, 242, 120, 251, 241, 245], [119, 241, 120, 269], [119, 242, 120, 250], [119, 242, 270, 241], [239, 119], [239, 242], [239, 241], [239, 128, 129], [239, 271, 242], [239, 240], [239, 271, 242], [239], [272, 24, 271, 242, 273], [272, 129, 274], [272], [272, 275], [128, 242], [272, 271, 242, 4, 276], [272, 271, 242, 277, 275, 278], [272, 279, 277], [272], [272, 271, 242], [272, 271, 242, 276, 4, 214, 215], [272, 271, 242], [272, 271, 242, 4, 214, 215], [214, 215], [272, 271, 242, 251], [272, 271, 250, 280, 251, 275], [272, 271, 242, 119, 250, 28], [272, 271, 242, 4, 214, 215], [119, 247], [119, 247, 245], [128, 242, 281, 190], [128, 271, 28], [272, 271, 241], [241], [272, 271, 214, 215, 269, 267], [272, 271, 269, 128, 190], [119, 271, 269, 241], [272, 271, 215, 253], [128, 271], [272, 271, 215, 128, 282, 283, 253], [143], [272, 282, 284, 214, 215], [272, 214, 215], [272, 214, 215, 285], [239, 242], [239, 272, 271, 242], [272, 271, 242, 241, 245], [272], [286, 287, 39, 288], [119, 289, 4], [286, 290, 29, 291, 292], [119, 290, 293, 294, 29, 289, 266, 295], [290, 296, 297, 29, 289, 266, 295, 298], [286, 119, 299, 290, 242, 300, 301, 302, 303, 248, 304, 305, 306, 307, 308, 274, 267, 309, 310, 29], [311, 312, 313, 314, 315, 316, 255, 309, 29, 289, 266, 295, 317, 284, 318], [4, 39, 255], [286, 119, 272, 271, 311, 22, 299, 303, 319, 320, 314, 315, 321, 322, 313, 323, 324, 325, 307, 308, 326, 327, 328, 288, 241, 329, 330, 282, 331, 267, 332], [333, 286, 119, 129, 334, 272, 335]].map fun l => l.zipIdx
noncomputable def EH : List Str := ["append", "pop", "extend", "get", "rows", "__init__", "put", "index", "decls", "bounds", "defaults", "names", "origins", "renamed", "shaping", "putting", "FIRST_ROWS", "any", "unknown", "never", "void", "undefined", "null", "string", "number", "object", "error", "did", "kind", "name", "params", "body", "bases", "static", "extends_class", "abstract", "members", "variances", "busy", "at", "", "file", "nid", "Y_STR", "str_type", "Y_PARAM", "new_param", "new_decl", "NEVER", "Y_UNION", "parts_of", "Y_TPL", "STRING", "Y_NUM", "NUMBER", "Y_ENUM", "whole_of_row", "MARKED_ROWS", "regular_twin", "FALSE_T", "FRESH_F", "TRUE_T", "FRESH_T", "join_bools", "stays_beside", "ANY", "ERR", "UNKNOWN", "top_of", "MAX_UNION", "union", "without", "UNDEF", "add_undef", "LITERAL_ROWS", "is_literal", "is_fresh", "regular_one", "FAM_OTHER", "FAM_OBJ", "EMPTY", "meet_family", "Y_KEY", "KEY_FAMILIES", "Y_BOOL", "FAM_BOOL", "OBJECT_ROWS", "Y_INTER", "FAM_STR", "FAM_NUM", "family", "FAM_NULL", "FAM_UNDEF", "FAM_VOID", "is_nullish_family", "index_kids", "object_kids", "KID_SPANS", "Y_OBJ", "Y_REF", "Y_ALIAS", "Y_TUPLE", "Y_SIG", "row_kids", "Y_COND", "Y_MAPPED", "row_binds", "inner_kids", "reached", "free_params", "has_params", "Y_INDEX", "may_be_nullish", "Y_KEYOF", "mapped_may_be_nullish", "meet_may_be_nullish", "MOST_PLAIN", "PLAIN_ROWS", "plain_shape", "tab", "deep", "MOST_ROUNDS", "most_rounds", "MOST_SHAPES", "most_deep", "lib", "force", "put_deferred", "host", "mode", "rules", "assumed", "known", "trail", "road", "looks", "notes", "telling", "twin", "missing", "ask", "note", "same", "mark", "holds", "by_rule", "silent_with", "R_IDENT", "twin_of", "cut_back", "settled", "VALUE_ROWS", "R_COMPARE", "ask_kinds", "MOST_LOOKS", "MAX_OPEN", "U_VAR", "R_SUBTYPE", "relbase_kept", "close_trail", "R_ASSIGN", "tells", "U_PROP", "taken_wider", "OPEN_ROWS", "OBJECTT", "NULLT", "VOID", "simple_related", "U_ANY", "tops_related", "structured", "RULE_MEET", "DEFERRED_ROWS", "RULE_DEFERRED", "RULE_SIG", "LIST_ROWS_relbase", "RULE_LIST", "RULE_OBJECT", "rule_for", "from_union", "back", "some_part", "SHAPED_ROWS", "RULE_CHOICE", "RULE_PLACES", "to_union", "same_kind", "own_param", "pid_bound", "shape", "shown_keys", "HIDDEN", "named_keys", "member_of", "is_empty_object", "U_OPTION", "to_mapped", "U_INDEX", "index_noted", "keeps_marks", "U_READONLY", "own_members", "P_READONLY", "has_readonly", "by_members", "mark_rank", "keys_lie", "keys_and_marks", "mapped_pair", "param_related", "install_rel_params", "_law_base", "_law_take", "a", "b", "_law_kind", "p", "q", "*", "#", "_law_object", "_law_row", "z", "_law_worlds", "T", "V", "I", "Q", "_law_source", "_law_tried", "_law_codes", "K", "J", "P", "W", "L", "_law_asked", "law", "self", "code", "row", "t", "text", "fresh", "bound", "default", "pid", "decl", "got", "parts", "part", "top", "kept", "gone", "found", "fam", "whole", "cell", "out", "sig", "low", "high", "seen", "waiting", "order", "free", "held", "now", "keys", "turn", "s", "rel", "rule", "made", "spot", "told", "key", "answer", "clean", "lax", "spared", "want", "member", "have", "template", "d", "n", "x", "mask", "table", "y", "way", "props", "cells", "closed", "more", "shut", "wide", "how", "some", "most", "pick", "up", "alone", "brand", "other", "over", "me", "world", "mapped", "worlds", "stay", "own", "opt", "ro", "extra", "late", "goes", "which", "form", "named", "texts", "k", "j", "far", "mine", "w", "apart", "lets", "due", "last", "go", "script", "loud", "lap", "TypeTable", "Decl", "BoundHost", "Rel", "Notes", "ParamRule"].map Str.ofString
noncomputable def Dj : List Nat := [96, 103, 171, 185, 206, 221, 236, 243, 250, 257, 264, 271, 278, 285, 290, 295, 302, 309, 316, 323, 335, 342, 349, 356, 366, 371, 378, 385, 392, 409, 416, 424, 431, 436, 452, 466, 473, 480, 680, 687, 694, 701, 708, 736, 743, 750, 757, 764, 771, 778, 785, 792, 799, 806, 813, 848, 855, 862, 869, 883, 890, 904, 911, 919, 926, 943, 950, 957, 964, 971, 978, 983, 990, 997, 1004, 1011, 1032, 1053, 1072, 1084, 1091, 1099, 1104, 1111, 1118, 1125, 1132, 1139, 1144, 1149, 1154, 95, 102, 170, 184, 205, 220, 214, 235, 229, 242, 249, 256, 263, 270, 277, 284, 289, 294, 301, 308, 315, 322, 334, 341, 348, 355, 365, 370, 377, 384, 391, 408, 415, 423, 417, 430, 435, 451, 465, 472, 479, 679, 686, 693, 700, 707, 735, 742, 749, 756, 763, 770, 777, 784, 791, 798, 805, 812, 847, 854, 861, 868, 882, 889, 903, 910, 918, 925, 942, 949, 956, 963, 970, 977, 982, 989, 996, 1003, 1010, 1031, 1052, 1071, 1083, 1090, 1098, 1103, 1110, 1117, 1124, 1131, 1138, 1143, 1148, 1153, 3, 188, 187, 209, 208, 1056, 1055, 725, 724, 120, 119, 1075, 1074, 595, 594, 662, 661, 147, 125, 126, 127, 128, 129, 130, 131, 132, 133, 134, 135, 141, 136, 137, 138, 139, 140, 143, 142, 144, 145, 146, 149, 148, 150, 437, 612, 617, 615, 613, 614, 1092, 151, 152, 153, 154, 155, 156, 157]
noncomputable def OP (P : Params) (a : Nat) : Obj := ((N6 P).get a).getD default
noncomputable def KF (P : Params) : Frag := Dj.map fun a => (a, OP P a)
end
end
section
noncomputable section
noncomputable def tb : Tb where
 nm k := EH.getD k default
 len := 342
 gf f := (RQ.getD f none)
 gc c := (NQ.getD c none)
 gv k := (RO.getD k none)
 gd k := (RS.getD k none)
 ar k := N4.any (Nat.beq k)
noncomputable def fa (f : Nat) : Addr := J4.getD f 0
noncomputable def ca (c : Nat) : Addr := U9.getD c 0
theorem Lb : EH.length = 342 := by decide +kernel
theorem JA (P : Params) : xl (KF P) tb PR.zN (J4.zip Jv) = true := by kernel_rfl
noncomputable def DD (x : Str) : List Str -> Nat -> Nat
 | [], i => i
 | y :: r, i => cond (same y x) i (DD x r (i + 1))
noncomputable def xa : List Str -> Nat -> Bool
 | [], _ => true
 | x :: r, i => Nat.beq (DD x EH 0) i && xa r (i + 1)
theorem qE {l : List Str} : ∀ {i : Nat}, xa l i = true -> ∀ (j : Nat) x, l[j]? = some x -> DD x EH 0 = i + j := by
 induction l with
 | nil => exact fun _ j x h => nomatch h
 | cons y r ih =>
  intro i h j x hj
  cases j with
  | zero => exact Option.some.inj hj ▸ Nat.eq_of_beq_eq_true (a1 h)
  | succ j => rw [ih (a2 h) j x hj, Nat.succ_add]; rfl
theorem LG : xa EH 0 = true := by kernel_rfl
theorem OY : (EH.all fun x => PyData.canLay0 (.str x)) = true := by kernel_rfl
theorem BI {i : Nat} (h : i < 342) : EH[i]? = some (tb.nm i) := by
 show EH[i]? = some (EH.getD i default)
 rw [List.getD_eq_getElem?_getD, List.getElem?_eq_getElem (by rw [Lb]; exact h)]; rfl
noncomputable def TT : Nm where
 nm := tb.nm
 len := 342
 inj i j hi hj e := by
  have h1 := qE LG i _ (BI hi)
  rw [e, qE LG j _ (BI hj), Nat.zero_add, Nat.zero_add] at h1
  exact h1.symm
 ok i hi := List.all_eq_true.mp OY _ (List.mem_of_getElem? (BI hi))
end
end
section
noncomputable section
theorem O2 (P : Params) : Dj = (KF P).map (·.1) := by kernel_rfl
theorem O1 (P : Params) : Dj.map (H1 P).get? = (KF P).map (fun p => some p.2) := by kernel_rfl
theorem Th (P : Params) : (KF P).In (H1 P) := Frag.in_of (O2 P) (O1 P)
theorem S1 (P : Params) : (H1 P).isNs mainGlobals = true := a2 (a1 (a1 (m3 P)))
theorem Rd (P : Params) : (H1 P).isNs builtinsNs = true := a2 (a1 (m3 P))
theorem Rc (P : Params) : ((H1 P).isNs cStatics && ((H1 P).nsMap cStatics "sys.recursionlimit").isNone) = true := by kernel_rfl
theorem Q2 (P : Params) : (H1 P).objs.size = 1155 := by kernel_rfl
theorem Lr (P : Params) : ((H1 P).get? 1154).isSome = true := by kernel_rfl
noncomputable def CC (w : World) : Cx where
 prog := rL.row.prog
 w := w
 T := TT
 K := KF w.params
 bY := ca
 bN := H1 w.params
 mg := (H1 w.params).nsMap mainGlobals
 mb := (H1 w.params).nsMap builtinsNs
 g9 := 6
 mK := N4
 dB := fa
 mZ _ := none
 hK := Th w.params
 hg := .of_isNs (S1 w.params)
 hb := .of_isNs (Rd w.params)
 LX := ⟨_, .of_isNs (a1 (Rc w.params)), Option.isNone_iff_eq_none.mp (a2 (Rc w.params))⟩
 LJ := by rw [Q2]; decide
 yy := let ⟨o, ho⟩ := Option.isSome_iff_exists.mp (Lr w.params); ⟨1154, o, ho, by rw [Q2]; exact Nat.le_refl _⟩
 NC x hx := Heap.of_bltView (Rd w.params) (m1 w.params) x hx
noncomputable def ML (K : Frag) (p : Int × V) (e : DictEntry) : Bool := (match e.key with | .int j _ => decide (p.1 = j) | _ => false) && decide (e.hash = hashInt p.1) && DR K tb.nm 342 p.2 e.val
noncomputable def Cz (K : Frag) : List (Int × V) -> List DictEntry -> Bool
 | [], es => es.isEmpty
 | p :: r, es => (match es with | e :: es => ML K p e && Cz K r es | [] => false)
noncomputable def rN : List (Int × V) -> List DictEntry -> List (V × Value)
 | [], _ => []
 | p :: r, es => (match es with | e :: es => (.int p.1, e.val) :: rN r es | [] => [])
section
theorem Fz (X : K.In h) {p : Int × V} {e : DictEntry} (q : ML K p e = true) : (dz prog w TT false).is (.int p.1) e.key = true /\ e.hash = (dz prog w TT false).hash (.int p.1) /\ VR TT [] h p.2 e.val := by
 obtain ⟨hs, key, v⟩ := e
 refine ⟨?_, of_decide_eq_true (a2 (a1 q)), rm (T := TT) X _ (a2 q)⟩
 have q := a1 (a1 q)
 cases key <;> first | exact of_decide_eq_true q ▸ (KS.int _ _).ok | exact absurd q Bool.false_ne_true
theorem Cy (X : K.In h) {kvs : List (Int × V)} : ∀ {es : List DictEntry}, Cz K kvs es = true ->
  (∀ e ∈ es, ∃ k, (dz prog w TT false).is k e.key = true /\ e.hash = (dz prog w TT false).hash k) /\ Pairs (dz prog w TT false) es (rN kvs es) /\ qg TT [] h (kvs.map fun p => (V.int p.1, p.2)) (rN kvs es) := by
 induction kvs with
 | nil => exact fun e => List.isEmpty_iff.mp e ▸ ⟨(fun _ h => nomatch h), .nil, .nil⟩
 | cons p r ih =>
  intro es e
  cases es with
  | nil => cases e
  | cons x es =>
   obtain ⟨h1, h2, h3⟩ := Fz (prog := prog) (w := w) X (a1 e)
   obtain ⟨a, b, c⟩ := ih (a2 e)
   exact ⟨fun y hy => (List.mem_cons.mp hy).elim (fun e => e ▸ ⟨_, h1, h2⟩) (a y), .cons h1 rfl b, .cons ⟨rfl, h3⟩ c⟩
end
noncomputable def CT (K : Frag) (a : Addr) (k : List DictEntry -> Bool) : Bool := match K.lookup a with
 | some ob => (match ob.cls with | .type c => c == "dict" | _ => false) && ob.dict.isNone && ob.slots.toList.isEmpty && (match ob.data with | .dict es _ => k es.toList | _ => false)
 | none => false
theorem CS {K : Frag} {a : Addr} {k : List DictEntry -> Bool} (h : CT K a k = true) : ∃ es n, K.lookup a = some { cls := .type "dict", data := .dict es n } /\ k es.toList = true := by
 unfold CT at h
 cases e : K.lookup a with
 | none => rw [e] at h; cases h
 | some ob =>
  rw [e] at h
  obtain ⟨cls, dict, data, slots⟩ := ob
  have h1 := a1 (a1 (a1 h))
  have h2 := Option.isNone_iff_eq_none.mp (a2 (a1 (a1 h)))
  have h3 := Array.toList_inj.mp ((List.isEmpty_iff.mp (a2 (a1 h))).trans (show [] = (#[] : Array (Option Value)).toList from rfl))
  have h4 := a2 h
  cases h2
  cases h3
  cases cls <;> first | (cases data <;> first | (cases eq_of_beq h1; exact ⟨_, _, rfl, h4⟩) | exact absurd h4 Bool.false_ne_true) | exact absurd h1 Bool.false_ne_true
noncomputable def yA (K : Frag) (x : Str) (k : Value -> Bool) : Bool := match nsIn K mainGlobals x with
 | some o => o.any k
 | none => false
theorem uK {C : Cx} {x : Str} {k : Value -> Bool} (h : yA C.K x k = true) : ∃ v, C.mg x = some v /\ k v = true := by
 unfold yA at h
 cases e : nsIn C.K mainGlobals x with
 | none => rw [e] at h; cases h
 | some o =>
  rw [e] at h
  obtain ⟨v, hv, hk⟩ := FX h
  exact ⟨v, mg_of C.hK C.hg (hv ▸ e), hk⟩
noncomputable def GX (K : Frag) (k : Nat) (kvs : List (Int × V)) : Bool := yA K (tb.nm k) fun v => match v with | .ref a => CT K a (Cz K kvs) && n6 [] && decide ((kvs.map fun p => V.int p.1).Nodup) && !(a == sysModules) | _ => false
noncomputable def GW (K : Frag) (k : Nat) (v : V) : Bool := yA K (tb.nm k) (DR K tb.nm 342 v)
theorem CA {w : World} {k : Nat} {kvs : List (Int × V)} (h : GX (CC w).K k kvs = true) : GD (CC w) (tb.nm k) kvs := by
 obtain ⟨v, hv, h⟩ := uK (C := CC w) h
 cases v with
 | ref a =>
  obtain ⟨es, n, hl, he⟩ := CS (a1 (a1 (a1 h)))
  obtain ⟨x1, x2, x3⟩ := Cy (prog := (CC w).prog) (w := w) (CC w).hK he
  refine ⟨a, _, hv, ⟨_, es, n, (CC w).hK _ _ hl, ⟨rfl, rfl, rfl⟩, rfl, fun e he => x1 e (Array.mem_toList_iff.mpr he), x2, ?_⟩, x3, n1 (a2 h)⟩
  rw [x3.bC, List.map_map]
  exact of_decide_eq_true (a2 (a1 h))
 | _ => exact absurd h Bool.false_ne_true
theorem Cu {w : World} {k : Nat} {v : V} (h : GW (CC w).K k v = true) : QL (CC w) (tb.nm k) v := let ⟨g, hg, h⟩ := uK (C := CC w) h; ⟨g, hg, rm (T := TT) (CC w).hK _ h⟩
noncomputable def qS {β : Type} (p : Nat -> β -> Bool) : List (Option β) -> Nat -> Bool
 | [], _ => true
 | o :: r, i => o.all (p i) && qS p r (i + 1)
theorem ly {β : Type} {p : Nat -> β -> Bool} {l : List (Option β)} : ∀ {i : Nat}, qS p l i = true -> ∀ {j : Nat} {x : β}, l.getD j none = some x -> p (i + j) x = true := by
 induction l with
 | nil => exact fun _ j x h => nomatch h
 | cons o r ih =>
  intro i h j x hj
  cases j with
  | zero => rw [show o = some x from hj] at h; exact a1 h
  | succ j => rw [show i + (j + 1) = i + 1 + j by rw [Nat.succ_add]; rfl]; exact ih (a2 h) hj
noncomputable def GY (K : Frag) (k : Nat) (x : Str) (v : Option Value) : Bool := findIn K (.ref (ca k)) x == some v
noncomputable def Jx (K : Frag) (k : Nat) : Bool :=
 GY K k "__getattribute__" (some (.builtin "object.__getattribute__")) && GY K k "__getattr__" none && GY K k "__setattr__" (some (.builtin "object.__setattr__")) && plainOver K (ca k) && hasDictIn K (ca k) && N4.all fun a => GY K k (tb.nm a) none
noncomputable def IM (K : Frag) (f : Nat) : Bool := typeIn K (.ref (fa f)) == some (.type "function")
noncomputable def Ca (K : Frag) (k : Nat) (i : Option (Option Nat)) : Bool := match i with
 | some (some f) => GY K k "__init__" (some (.ref (fa f))) && IM K f
 | some none => GY K k "__init__" (some (.builtin "object.__init__"))
 | none => false
noncomputable def Le (K : Frag) (k : Nat) : Bool := makesIn K (ca k) && keepIn K (.ref (ca k)) && Ca K k (PR.cn k)
noncomputable def yd (K : Frag) (k m : Nat) : Bool := (PR.aM k m).all fun f => GY K k (tb.nm m) (some (.ref (fa f))) && IM K f && keepIn K (.ref (fa f))
end
end
section
noncomputable section
theorem Jy (P : Params) : ((List.range 6).all fun c => Jx (KF P) c) = true := by kernel_rfl
theorem Lf (P : Params) : ((List.range 6).all fun c => Le (KF P) c) = true := by kernel_rfl
theorem EN (P : Params) : ((List.range 6).all fun c => (List.range 342).all fun m => yd (KF P) c m) = true := by kernel_rfl
theorem MC (P : Params) : qS (fun f k => (nsIn (KF P) mainGlobals (tb.nm k) == some (some (.ref (fa f)))) && keepIn (KF P) (.ref (fa f))) RQ 0 = true := by kernel_rfl
theorem ME (P : Params) : qS (fun c k => nsIn (KF P) mainGlobals (tb.nm k) == some (some (.ref (ca c)))) NQ 0 = true := by kernel_rfl
theorem Mz (P : Params) : qS (fun k v => GW (KF P) k v) RO 0 = true := by kernel_rfl
theorem MD (P : Params) : qS (fun k kvs => GX (KF P) k kvs) RS 0 = true := by kernel_rfl
theorem MZ (P : Params) : ([BF.len, .sorted, .tuple, .all, .any, .dict].all fun b => nsIn (KF P) mainGlobals (hY b) == some none) = true := by kernel_rfl
theorem KV (P : Params) : (nsIn (KF P) mainGlobals "range" == some none) = true := by kernel_rfl
theorem yc : (same (tb.nm 0) "append" && same (tb.nm 1) "pop" && same (tb.nm 2) "extend" && same (tb.nm 3) "get") = true := by kernel_rfl
theorem MI : (J4.zip Jv).map (·.1) = J4 := by kernel_rfl
section
theorem i7 {n : Nat} {p : Nat -> Bool} (h : (List.range n).all p = true) {i : Nat} (hi : i < n) : p i = true := List.all_eq_true.mp h i (List.mem_range.mpr hi)
theorem jY {k : Nat} {x : Str} {v : Option Value} (h : GY (CC w).K k x v = true) : findIn (CC w).K (.ref ((CC w).bY k)) x = some v := eq_of_beq h
theorem yu {f : Nat} (h : IM (CC w).K f = true) : typeIn (CC w).K (.ref ((CC w).dB f)) = some (.type "function") := eq_of_beq h
theorem Jw : ∀ c < (CC w).g9, mM (CC w) c := fun c hc => have h := i7 (Jy w.params) (i := c) hc
 ⟨jY (a1 (a1 (a1 (a1 (a1 h))))), jY (a2 (a1 (a1 (a1 (a1 h))))), jY (a2 (a1 (a1 (a1 h)))), a2 (a1 (a1 h)), a2 (a1 h), fun a ha => jY (List.all_eq_true.mp (a2 h) a ha)⟩
theorem IQ {k : Nat} {i : Option (Option Nat)} (h : Ca (CC w).K k i = true) : j3 (CC w) k i := by
 cases i with
 | none => cases h
 | some i =>
  cases i with
  | none => exact .obj (jY h)
  | some f => exact .own (jY (a1 h)) (yu (a2 h))
theorem Ld {c : Nat} (hc : c < (CC w).g9) : yU (CC w) c := have h := i7 (Lf w.params) (i := c) hc; ⟨a1 (a1 h), a2 (a1 h), IQ (a2 h)⟩
set_option tactic.hygienic true in
theorem EM {c m f : Nat} (h : PR.aM c m = some f) : m < 342 := by
 have h : wH c m = some f := h
 unfold wH at h
 repeat' (split at h; · rename_i e; exact Nat.lt_of_le_of_lt (Nat.le_of_eq e.2) (by decide))
 cases h
theorem EK : ∀ c < (CC w).g9, ∀ m f, PR.aM c m = some f -> xG (CC w) c m f := fun c hc m f e => by
 have h := i7 (i7 (EN w.params) (i := c) hc) (EM e)
 unfold yd at h
 rw [e] at h
 exact ⟨jY (a1 (a1 h)), yu (a2 (a1 h)), a2 h⟩
theorem Ki (d : Nat) (c : Cl) (hc : ∀ g, eX ((CC w).aW g) d c) : fN tb (CC w) d c where
 nm := rfl
 len := rfl
 gf f k e := by
  have h := ly (MC w.params) e
  rw [Nat.zero_add] at h
  exact ⟨mg_of (CC w).hK (CC w).hg (eq_of_beq (a1 h)), a2 h⟩
 gc c k e := by
  have h := ly (ME w.params) e
  rw [Nat.zero_add] at h
  have hl : c < 6 := Nat.lt_of_not_le fun q => by
   have e : NQ.getD c none = some k := e
   rw [List.getD_eq_getElem?_getD, List.getElem?_eq_none (show NQ.length <= c from q)] at e
   cases e
  exact ⟨hl, Ld hl, mg_of (CC w).hK (CC w).hg (eq_of_beq h)⟩
 gv k v e := by
  have h := ly (Mz w.params) e
  rw [Nat.zero_add] at h
  exact Cu h
 gd k kvs e := by
  have h := ly (MD w.params) e
  rw [Nat.zero_add] at h
  exact CA h
 ar a e := let ⟨b, hb, he⟩ := List.any_eq_true.mp (show N4.any (Nat.beq a) = true from e); Nat.eq_of_beq_eq_true he ▸ hb
 bf b := mg_none_of (CC w).hK (CC w).hg (eq_of_beq (List.all_eq_true.mp (MZ w.params) b (by cases b <;> decide)))
 pH := mg_none_of (CC w).hK (CC w).hg (eq_of_beq (KV w.params))
 cls := Jw
 aM := EK
 names := ⟨cA (a1 (a1 (a1 yc))), cA (a2 (a1 (a1 yc))), cA (a2 (a1 yc)), cA (a2 yc)⟩
 call := hc
theorem G6 (w : World) (f : Nat) (fd : aL) (hf : PR.zN[f]? = some fd) : ∃ cL, oK (CC w).K ((CC w).dB f) tb fd cL = true := by
 obtain ⟨p, hp, h⟩ := zM (JA w.params) f fd hf
 have e : ((J4.zip Jv).map (·.1))[f]? = some p.1 := by rw [List.getElem?_map, hp]; rfl
 rw [MI] at e
 have e2 : p.1 = (CC w).dB f := by
  show p.1 = J4.getD f 0
  rw [List.getD_eq_getElem?_getD, e]; rfl
 exact ⟨_, e2 ▸ h⟩
theorem MU (w : World) (d : Nat) : eX (CC w) d (cl d) := JH (t := tb) rfl rfl Ki (G6 w) d
end
end
end
section
noncomputable section
noncomputable def GH (o : Obj) : Bool := match o.cls with | .type n => n == "list" | _ => false
theorem EG (P : Params) : ((H1 P).objs.toList.all fun o => !GH o) = true := by kernel_rfl
theorem Lq (P : Params) : (nsIn (KF P) mainGlobals myD.1.name == some (some (.ref (fa 90)))) = true := by kernel_rfl
theorem z7 (w : World) (d : Nat) (F : Addr -> Option Obj) : eX ((CC w).aW F) d (cl d) := He (t := tb) rfl rfl Ki (G6 w) d F
section
variable {zY : Str -> Option Addr} {R : WRecords}
theorem E3 {T : Nm} {xs : List WData} (hx : WShape.hasItems R xs .int = true) : ∀ {vs as}, ReadsAllW R zY h vs xs as -> ∃ l : List Int, eQ T [] h (l.map V.int) vs /\ l.length = xs.length := by
 induction xs with
 | nil => intro vs as r; cases r; exact ⟨[], .nil, rfl⟩
 | cons x xs ih =>
  intro vs as r
  have hx : (WShape.has R x .int && WShape.hasItems R xs .int) = true := hx
  cases r with
  | cons r rs =>
   obtain ⟨l, h1, h2⟩ := ih (a2 hx) rs
   have hx := a1 hx
   cases r with
   | int i t => exact ⟨i :: l, .cons (.int i t) h1, congrArg (· + 1) h2⟩
   | _ => exact absurd hx Bool.false_ne_true
end
theorem ER (P : Params) : ((H1 P).objs.toList.all fun o => o.alive) = true := by kernel_rfl
theorem Ir {h : Heap} {a : Addr} {m m' : Str -> Option Value} (x : h.Ns a m) (y : h.Ns a m') : m = m' := by
 obtain ⟨o, es, ep, ho, hd, _, hf⟩ := x
 obtain ⟨o', es', U0, Ck, sE, _, PD⟩ := y
 rw [Option.some.inj (ho.symm.trans Ck), sE] at hd
 exact funext fun n => (hf n).symm.trans ((Data.dict.inj hd).1 ▸ PD n)
noncomputable abbrev YP (w : World) (h : Heap) : Prop := ∀ b o, (H1 w.params).get? b = some o -> h.get? b = some o
theorem BJ {w : World} {h : Heap} {l : Addr} {o : Obj} (Y : YP w h) (ho : h.get? l = some o) (hc : o.cls = .type "list") : (H1 w.params).objs.size <= l := by
 refine Nat.not_lt.mp fun lt => ?_
 have e : (H1 w.params).objs[l]? = some (H1 w.params).objs[l] := Array.getElem?_eq_getElem lt
 generalize (H1 w.params).objs[l] = ob at e
 have hm : ob ∈ (H1 w.params).objs.toList := List.mem_of_getElem? (by rw [Array.getElem?_toList]; exact e)
 have z := List.all_eq_true.mp (EG w.params) ob hm
 cases Option.some.inj ((Y l ob ((Heap.get?_eq_some _ _ _).mpr ⟨e, List.all_eq_true.mp (ER w.params) ob hm⟩)).symm.trans ho)
 unfold GH at z
 rw [hc] at z
 cases z
noncomputable abbrev CF (w : World) (l : Addr) (o : Obj) : Cx := (CC w).aW (uP (CC w) l o)
theorem Bf {w : World} {h : Heap} {l : Addr} {o : Obj} {vs : Array Value} {n : Nat} {xs : List Int} (Y : YP w h) (ho : h.get? l = some o) (hc : o.cls = .type "list") (hd : o.data = .seq vs n) (r : eQ TT [] h (xs.map V.int) vs.toList) (hl : xs.length <= 1000000) :
  SI (CF w l o) [(l, none)] [.ic (xs.map V.int)] h := by
 have hf : foot [(l, (none : Option Addr))] = [l] := rfl
 refine ⟨Y, rfl, fun m ob p hm hp => ?_, ?_, fun a ha => ?_, fun a ob e => ?_⟩
 ·cases m with
  | succ m => cases hm
  | zero =>
   cases hm
   cases hp
   exact ⟨vs, ⟨o, ho, hc, n, hd⟩, r.imp fun _ _ r => r.aC ⟨(fun n p e => by rw [List.getElem?_nil] at e; cases e), fun _ _ _ e => e⟩, by rw [List.length_map]; exact hl, rfl⟩
 ·rw [hf]; exact List.nodup_cons.mpr ⟨(fun h => nomatch h), .nil⟩
 ·rw [hf] at ha; rw [List.mem_singleton.mp ha]; exact BJ Y ho hc
 ·have e : (if a = l then some o else none) = some ob := e
  by_cases q : a = l
  ·subst q
   rw [if_pos rfl] at e
   exact ⟨Option.some.inj e ▸ ho, 0, _, rfl, rfl, trivial⟩
  ·rw [if_neg q] at e; cases e
theorem Bk : vz 72 callerA := ⟨rfl, by decide, by decide⟩
theorem BX {w : World} {s : Shared} {l : Addr} {o : Obj} {vs : Array Value} {n : Nat} {xs : List Int} {Q E : Value -> Shared -> Prop} (Y : YP w s.heap) (ho : s.heap.get? l = some o) (hc : o.cls = .type "list") (hd : o.data = .seq vs n) (r : eQ TT [] s.heap (xs.map V.int) vs.toList) (hl : xs.length <= 1000000)
  (q : ∀ h' tk, (∀ b o, s.heap.get? b = some o -> h'.get? b = some o) -> Q (.bool true) { s with heap := h', toks := tk }) : wpAny (model rL.row.prog w) callerA (PySem.call (.ref (fa 90)) [.ref l]) Q E s := by
 have S := Bf Y ho hc hd r hl
 refine wpAny_call (z7 w 72 (uP (CC w) l o) (Φ := fun v _ => v = .bool true) (II (D := 0) (script := xs.map V.int) (fun v hv => let ⟨z, _, e⟩ := List.mem_map.mp hv; ⟨z, e.symm⟩) fun _ => rfl) Bk S (.cons (.ref (d := none) rfl) .nil) ?_)
 rintro v σ' rfl h' tk μ' v' X S' rv
 cases rv with
 | bool b =>
  refine q h' tk fun b ob e => ?_
  by_cases z : b = l
  ·subst z
   exact (S'.mZ b o (if_pos rfl)).1.trans (ho.symm.trans e)
  ·exact X.old b ob e (fun hb => z (List.mem_singleton.mp hb)) (fun h => nomatch h)
end
end
section
theorem FV {args : List WData} (h : WShape.hasAll rL.row.records args rL.row.args = true) : ∃ xs, args = [.list xs] /\ WShape.hasItems rL.row.records xs .int = true := by
 cases args with
 | nil => cases h
 | cons x r =>
  have h : (WShape.has rL.row.records x (.list .int) && WShape.hasAll rL.row.records r []) = true := h
  have h2 := a2 h
  have h1 := a1 h
  cases r with
  | cons => cases h2
  | nil =>
   cases x <;> first | exact ⟨_, rfl, (Bool.or_false _).symm.trans h1⟩ | exact absurd h1 Bool.false_ne_true
theorem Ed {R : WRecords} {a b : WTm} {e : WCtx} (h : WTm.value R a e = some (.bool true)) : WTm.holds R (.and (.not a) b) e = false := by
 have h2 : WTm.value R (.not a) e = some (.bool false) := by
  show (match WTm.value R a e with | some (WData.bool b) => some (WData.bool (!b)) | _ => none) = _
  rw [h]; rfl
 have h3 : WTm.value R (.and (.not a) b) e = some (.bool false) := by
  show (match WTm.value R (.not a) e with | some (WData.bool false) => some (WData.bool false) | some (WData.bool true) => (match WTm.value R b e with | some (WData.bool x) => some (WData.bool x) | _ => none) | _ => none) = _
  rw [h2]
 unfold WTm.holds
 rw [h3]
theorem IF {xs : List WData} (h : rL.row.pre.holds rL.row.records { args := [.list xs] } = true) : xs.length <= 63 := by
 refine Nat.not_lt.mp fun lt => ?_
 have hv : PySem.W.less? (.int 63) (.int (xs.length : Int)) = some true := congrArg some (decide_eq_true (Int.ofNat_lt.mpr lt))
 have e : WTm.value rL.row.records (.lt (.lit (.int 63)) (.len (.arg 0))) { args := [.list xs] } = some (.bool true) := by
  show (PySem.W.less? (.int 63) (.int (xs.length : Int))).map WData.bool = _
  rw [hv]; rfl
 exact Bool.false_ne_true ((Ed (b := .lit (.bool true)) e).symm.trans h)
theorem Bp {R : WRecords} {args after : List WData} : WTm.holds R (.eq .res (.lit (.bool true))) { args := args, res := some (.bool true), after := after } = true := by
 have hs : PySem.W.same (.bool true) (.bool true) = true := by decide +kernel
 have h : WTm.value R (.eq .res (.lit (.bool true))) { args := args, res := some (.bool true), after := after } = some (.bool true) := by
  show some (WData.bool (PySem.W.same (.bool true) (.bool true))) = _
  rw [hs]
 unfold WTm.holds
 rw [h]
theorem walk : WalkO myQ myLoose (fun _ _ => True) YP rL.row.toRowW myD.1 myD.2 fun f vs => PySem.call f vs := by
 intro w SA fz mg mb G Y a o pm cd doc dV kV h1 h2 h3 h4 h5 h6 args gj as LP Ui TO Rt Ug
 have hG : fz.heap.Ns mainGlobals (CC w).mg := (CC w).hg.keeps Y
 have Pu := Ir G.T.g hG
 have hn : (CC w).mg myD.1.name = some (.ref (fa 90)) := mg_of (CC w).hK (CC w).hg (eq_of_beq (Lq w.params))
 rw [Pu, hn] at h5
 cases h5
 obtain ⟨xs, rfl, hx⟩ := FV (a1 LP)
 have hl := IF (a2 LP)
 cases TO with
 | cons r rs =>
 cases rs
 cases r with
 | @list l o vs n _ bs ho hc hd hr =>
 obtain ⟨is, ri, li⟩ := E3 (T := TT) hx hr
 refine BX Y ho hc hd ri (Nat.le_trans (Nat.le_of_eq li) (Nat.le_trans hl (by decide))) fun h' tk hk => GoodW.toG ⟨.inl ⟨.bool true, .bool true, [], rfl, (fun _ => rfl), .bool true, ?_, fun _ => ⟨.nil, (fun _ h => nomatch h)⟩⟩, hk, rfl, h6⟩
 exact Bool.and_eq_true_iff.mpr ⟨rfl, Bp⟩
end
end OJ
end Mine
open PySem PySem.W PyProof.Rows
theorem PySem.Challenge.cw_xm0557_01_holds : PySem.Challenge.rw_xm0557_01.Holds :=
  holds_law Mine.hSaid fun said => holds_open (r := Mine.rL.row) (q := Mine.myQ) (loose := Mine.myLoose) (Xt := fun _ => true) (XP := fun _ _ => True) (Yf := fun s : Shared => s.heap) (Ya := fun w => Mine.H1 w.params) (YP := Mine.YP) (d := Mine.myD.1) (kwd := Mine.myD.2) (N := 9000)
    Mine.hLeft (fun w s e b o h => by rw [show s.heap = Mine.H1 w.params from e]; exact h) (fun w h h' y k b o e => k b o (y b o e)) (fun _ _ => trivial) (fun _ _ _ _ _ => trivial) Mine.hDef Mine.hTheDef Mine.hKw (fun s _ => recFacts_nil rfl) rfl said (Mine.look2 (Mine.look2 Mine.hOk1 Mine.hOk2) Mine.hOk3) Mine.hBare Mine.hProm Mine.walk
