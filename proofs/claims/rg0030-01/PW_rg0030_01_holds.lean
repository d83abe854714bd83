import PyProof.Rows.All
import Wide.All
import OpenK.AllK
import Wide.FinOn
import Lean
import PySem.Challenge.RW_rg0030_01
set_option maxRecDepth 100000
set_option tactic.hygienic false
set_option Elab.async false
set_option backward.match.sparseCases false
set_option linter.unusedVariables false
set_option compiler.extract_closed false
open PySem PySem.W PySem.Calls PyProof.Rows
namespace Mine
inductive MV where
 | none
 | bool (b : Bool)
 | int (i : Int)
 | str (s : Str)
 | tup (xs : List MV)
 | fz (xs : List MV)
 | ins (c k : Nat)
 | lst (k : Nat)
 | dct (k : Nat)
 | junk
noncomputable abbrev aY := List (Str × MV)
inductive MD where
 | s (es : List (Str × MV))
 | i (es : List (Int × MV))
structure MH where
 ins : Nat -> Nat -> Option aY
 lst : Nat -> Option (List MV)
 dct : Nat -> Option MD
 next : Nat
theorem nos {α : Type} {a : α} {P : Prop} (e : none = some a) : P := nomatch e
theorem itI {α : Type} {c : Prop} [Decidable c] {x : Option α} {r : α} (e : (if c then x else none) = some r) : c /\ x = some r := by
 by_cases h : c
 ·rw [if_pos h] at e; exact ⟨h, e⟩
 ·rw [if_neg h] at e; exact nos e
theorem obI {α β : Type} {o : Option α} {f : α -> Option β} {r : β} (e : o.bind f = some r) : ∃ a, o = some a /\ f a = some r := by
 cases o with
 | none => exact nos e
 | some a => exact ⟨a, rfl, e⟩
theorem obC {α β : Type} {o : Option α} {f : α -> Option β} {r : β} {P : Prop} (e : o.bind f = some r) (h : ∀ a, o = some a -> f a = some r -> P) : P := by
 obtain ⟨a, q, e⟩ := obI e
 exact h a q e
theorem obS {α β : Type} {o : Option α} {f : α -> Option β} {a : α} {r : Option β} (h : o = some a) (e : f a = r) : o.bind f = r := by rw [h]; exact e
theorem elC {α β : Type} {o : Option α} {x : β} {f : α -> β} {r : β} {P : Prop} (e : o.elim x f = r) (h : ∀ a, o = some a -> f a = r -> P) (h' : x = r -> P) : P := by
 cases o with
 | none => exact h' e
 | some a => exact h a rfl e
theorem itC {α : Type} {c : Prop} [Decidable c] {x : Option α} {r : α} {P : Prop} (e : (if c then x else none) = some r) (h : c -> x = some r -> P) : P := h (itI e).1 (itI e).2
theorem dA {a b : Bool} {P : Prop} (e : (a && b) = true) (h : a = true -> b = true -> P) : P := h (Bool.and_eq_true_iff.mp e).1 (Bool.and_eq_true_iff.mp e).2
theorem leA {a b c : Nat} (h : a <= b) (e : Nat.ble b c = true) : a <= c := Nat.le_trans h (Nat.le_of_ble_eq_true e)
theorem ltA {a b c : Nat} (h : a < b) (e : Nat.ble b c = true) : a <= c := Nat.le_trans (Nat.le_of_lt h) (Nat.le_of_ble_eq_true e)
theorem ltB {a b c : Nat} (h : a < b) (e : Nat.ble b c = true) : a < c := Nat.lt_of_lt_of_le h (Nat.le_of_ble_eq_true e)
theorem leT {a b c : Nat} (h : a <= b) (h' : b <= c) : a <= c := Nat.le_trans h h'
theorem wT {a b c k l : Nat} (h : a + k <= b) (e : Nat.ble l k = true) (e' : Nat.ble b c = true) : a + l <= c := Nat.le_trans (Nat.le_trans (Nat.add_le_add_left (Nat.le_of_ble_eq_true e) a) h) (Nat.le_of_ble_eq_true e')
theorem rK {a b c l : Nat} (h : a <= b) (e : Nat.ble (b + l) c = true) : a + l <= c := Nat.le_trans (Nat.add_le_add_right h l) (Nat.le_of_ble_eq_true e)
theorem okI {α β : Type} {a c : α} {b d : β} (e : some (a, b) = some (c, d)) : a = c /\ b = d := by cases e; exact ⟨rfl, rfl⟩
theorem okJ {α β γ : Type} {a c : α} {b d : β} {x y : γ} (e : some ((a, b), x) = some ((c, d), y)) : a = c /\ b = d /\ x = y := by cases e; exact ⟨rfl, rfl, rfl⟩
theorem jb {α β : Type} {a c : α} {b d : β} (e : some (a, b) = some (c, d)) : c = a /\ d = b := by cases e; exact ⟨rfl, rfl⟩
theorem ju {α β γ : Type} {a c : α} {b d : β} {x y : γ} (e : some ((a, b), x) = some ((c, d), y)) : c = a /\ d = b /\ y = x := by cases e; exact ⟨rfl, rfl, rfl⟩
theorem ay {G : Prop} (h : ∀ X : Prop, (G -> X) -> X) : G := h G id
noncomputable def M (α : Type) := MH -> Option (α × MH)
noncomputable def ac {α : Type} (a : α) : M α := fun H => some (a, H)
noncomputable def aa {α β : Type} (m : M α) (f : α -> M β) : M β := fun H => match m H with
 | none => none
 | some (a, H') => f a H'
noncomputable def ai {α : Type} : M α := fun _ => none
noncomputable def MH.putI (H : MH) (c k : Nat) (fs : aY) : MH := { H with ins := fun c' k' => if c' = c /\ k' = k then some fs else H.ins c' k' }
noncomputable def MH.putL (H : MH) (k : Nat) (xs : List MV) : MH := { H with lst := fun k' => if k' = k then some xs else H.lst k' }
noncomputable def MH.putD (H : MH) (k : Nat) (d : MD) : MH := { H with dct := fun k' => if k' = k then some d else H.dct k' }
noncomputable def MH.up (H : MH) : MH := { H with next := H.next + 1 }
noncomputable def newI (c : Nat) : M MV := fun H => some (.ins c H.next, (H.putI c H.next []).up)
noncomputable def newL (xs : List MV) : M MV := fun H => some (.lst H.next, (H.putL H.next xs).up)
noncomputable def newD (d : MD) : M MV := fun H => some (.dct H.next, (H.putD H.next d).up)
noncomputable def ad {α : Type} : List (Str × α) -> Str -> Option α
 | [], _ => none
 | (a, v) :: r, x => if x = a then some v else ad r x
noncomputable def putS {α : Type} (x : Str) (v : α) : List (Str × α) -> List (Str × α)
 | [] => [(x, v)]
 | (a, u) :: r => if x = a then (a, v) :: r else (a, u) :: putS x v r
noncomputable def aA {α : Type} : List (Int × α) -> Int -> Option α
 | [], _ => none
 | (a, v) :: r, x => if x = a then some v else aA r x
set_option genSizeOf false in
set_option genInjectivity false in
inductive E | x | y | z | w | n (k : Nat) | a (p q : E) | m (k : Nat) (p : E)
noncomputable def E.den (x y z w : Nat) (e : E) : Nat := E.rec x y z w (fun k => k) (fun _ _ p q => p + q) (fun k _ p => k * p) e
noncomputable def E.ev (x y z w u : Nat) (e : E) : Nat := E.rec x y z w (fun k => k * u) (fun _ _ p q => p + q) (fun k _ p => k * p) e
theorem ac4 (a b c d : Nat) : a + b + (c + d) = a + c + (b + d) := Nat.add_add_add_comm ..
theorem E.ev1 {x y z w : Nat} {e : E} : e.den x y z w = x * e.ev 1 0 0 0 0 + y * e.ev 0 1 0 0 0 + (z * e.ev 0 0 1 0 0 + w * e.ev 0 0 0 1 0) + e.ev 0 0 0 0 1 := by
 induction e with
 | x => change x = x * 1 + y * 0 + (z * 0 + w * 0) + 0; rw [Nat.mul_one, Nat.mul_zero, Nat.mul_zero, Nat.mul_zero]; rfl
 | y => change y = x * 0 + y * 1 + (z * 0 + w * 0) + 0; rw [Nat.mul_one, Nat.mul_zero, Nat.mul_zero, Nat.mul_zero, Nat.zero_add]; rfl
 | z => change z = x * 0 + y * 0 + (z * 1 + w * 0) + 0; rw [Nat.mul_one, Nat.mul_zero, Nat.mul_zero, Nat.mul_zero, Nat.zero_add]; rfl
 | w => change w = x * 0 + y * 0 + (z * 0 + w * 1) + 0; rw [Nat.mul_one, Nat.mul_zero, Nat.mul_zero, Nat.mul_zero, Nat.zero_add, Nat.zero_add]; rfl
 | n k => change k = x * (k * 0) + y * (k * 0) + (z * (k * 0) + w * (k * 0)) + k * 1; rw [Nat.mul_one, Nat.mul_zero, Nat.mul_zero, Nat.mul_zero, Nat.mul_zero, Nat.mul_zero, Nat.zero_add]
 | a p q hp hq =>
  change p.den x y z w + q.den x y z w = x * (_ + _) + y * (_ + _) + (z * (_ + _) + w * (_ + _)) + (_ + _)
  rw [hp, hq, Nat.mul_add, Nat.mul_add, Nat.mul_add, Nat.mul_add, ac4, ac4 _ _ (_ + _), ac4 (x * _), ac4 (z * _)]; rfl
 | m k p hp =>
  change k * p.den x y z w = x * (k * _) + y * (k * _) + (z * (k * _) + w * (k * _)) + k * _
  rw [hp, Nat.mul_add, Nat.mul_add, Nat.mul_add, Nat.mul_add, Nat.mul_left_comm k x, Nat.mul_left_comm k y, Nat.mul_left_comm k z, Nat.mul_left_comm k w]; rfl
noncomputable def E.ok (l r : E) : Bool := Nat.ble (l.ev 1 0 0 0 0) (r.ev 1 0 0 0 0) && Nat.ble (l.ev 0 1 0 0 0) (r.ev 0 1 0 0 0) && Nat.ble (l.ev 0 0 1 0 0) (r.ev 0 0 1 0 0) && Nat.ble (l.ev 0 0 0 1 0) (r.ev 0 0 0 1 0) && Nat.ble (l.ev 0 0 0 0 1) (r.ev 0 0 0 0 1)
theorem iE (x y z w : Nat) (l r : E) (h : l.ok r = true) : l.den x y z w <= r.den x y z w := by
 rw [E.ev1, E.ev1 (e := r)]
 refine dA h fun h h5 => ?_
 refine dA h fun h h4 => ?_
 refine dA h fun h h3 => ?_
 refine dA h fun h1 h2 => ?_
 exact Nat.add_le_add (Nat.add_le_add (Nat.add_le_add (Nat.mul_le_mul_left _ (Nat.le_of_ble_eq_true h1)) (Nat.mul_le_mul_left _ (Nat.le_of_ble_eq_true h2))) (Nat.add_le_add (Nat.mul_le_mul_left _ (Nat.le_of_ble_eq_true h3)) (Nat.mul_le_mul_left _ (Nat.le_of_ble_eq_true h4)))) (Nat.le_of_ble_eq_true h5)
theorem aK (x y z w : Nat) (L R l r : E) (h : E.ok (.a R l) (.a L r) = true) (g : L.den x y z w <= R.den x y z w) : l.den x y z w <= r.den x y z w :=
 Nat.le_of_add_le_add_left (Nat.le_trans (iE x y z w _ _ h) (Nat.add_le_add_right g _))
theorem bu (x y z w : Nat) (L R M S l r : E) (h : E.ok (.a (.a R S) l) (.a (.a L M) r) = true) (g : L.den x y z w <= R.den x y z w) (g' : M.den x y z w <= S.den x y z w) : l.den x y z w <= r.den x y z w :=
 aK x y z w (.a L M) (.a R S) l r h (Nat.add_le_add g g')
theorem gk (x y z w : Nat) (L R M S N T l r : E) (h : E.ok (.a (.a R (.a S T)) l) (.a (.a L (.a M N)) r) = true) (g : L.den x y z w <= R.den x y z w) (g' : M.den x y z w <= S.den x y z w) (g2 : N.den x y z w <= T.den x y z w) : l.den x y z w <= r.den x y z w :=
 bu x y z w L R (.a M N) (.a S T) l r h g (Nat.add_le_add g' g2)
theorem uu (x y z w : Nat) (L R M S N T O U l r : E) (h : E.ok (.a (.a R (.a S (.a T U))) l) (.a (.a L (.a M (.a N O))) r) = true) (g : L.den x y z w <= R.den x y z w) (g' : M.den x y z w <= S.den x y z w) (g2 : N.den x y z w <= T.den x y z w) (g3 : O.den x y z w <= U.den x y z w) : l.den x y z w <= r.den x y z w :=
 gk x y z w L R M S (.a N O) (.a T U) l r h g g' (Nat.add_le_add g2 g3)
theorem Ax (x y z w : Nat) (L R M S N T O U P V l r : E) (h : E.ok (.a (.a R (.a S (.a T (.a U V)))) l) (.a (.a L (.a M (.a N (.a O P)))) r) = true) (g : L.den x y z w <= R.den x y z w) (g' : M.den x y z w <= S.den x y z w) (g2 : N.den x y z w <= T.den x y z w) (g3 : O.den x y z w <= U.den x y z w) (g4 : P.den x y z w <= V.den x y z w) : l.den x y z w <= r.den x y z w :=
 uu x y z w L R M S N T (.a O P) (.a U V) l r h g g' g2 (Nat.add_le_add g3 g4)
theorem geE {a b : Nat} (e : a = b) : b <= a := Nat.le_of_eq e.symm
theorem n0 (i : Nat) : (0 : Int) <= i := Int.natCast_nonneg i
theorem cle {a b : Nat} (h : a <= b) : (a : Int) <= b := Int.ofNat_le.mpr h
theorem clt {a b : Nat} (h : a < b) : (a : Int) < b := Int.ofNat_lt.mpr h
theorem ule {a b : Nat} (h : (a : Int) <= b) : a <= b := Int.ofNat_le.mp h
theorem ult {a b : Nat} (h : (a : Int) < b) : a < b := Int.ofNat_lt.mp h
theorem nof {P : Prop} (h : 1 <= 0) : P := absurd h (Nat.not_succ_le_zero 0)
theorem nlt {a b : Nat} (h : b <= a) : ¬ a < b := Nat.not_lt.mpr h
theorem nle {a b : Nat} (h : b < a) : ¬ a <= b := Nat.not_le.mpr h
noncomputable def j7 : Str := ⟨#[103, 101, 116]⟩
noncomputable def bh : Str := ⟨#[115, 101, 116, 100, 101, 102, 97, 117, 108, 116]⟩
noncomputable def cG : Str := ⟨#[97, 112, 112, 101, 110, 100]⟩
noncomputable def f0 : Str := ⟨#[108, 101, 110]⟩
noncomputable def aQ : Str := ⟨#[114, 97, 110, 103, 101]⟩
noncomputable def fZ : Str := ⟨#[115, 116, 114]⟩
noncomputable def dL : Str := ⟨#[105, 110, 116]⟩
noncomputable def a9 : Str := ⟨#[116, 117, 112, 108, 101]⟩
noncomputable def bX : Str := ⟨#[100, 105, 99, 116]⟩
noncomputable def ao : Str := ⟨#[105, 115, 105, 110, 115, 116, 97, 110, 99, 101]⟩
noncomputable def bo (f : MV -> Option PyData) : List MV -> Option (List PyData)
 | [] => some []
 | v :: r => match f v with
  | some d => (match bo f r with
   | some ds => some (d :: ds)
   | none => none)
  | none => none
noncomputable def pd : Nat -> MH -> MV -> Option PyData
 | _, _, .none => some .none
 | _, _, .bool b => some (.bool b)
 | _, _, .int i => some (.int i)
 | _, _, .str s => some (.str s)
 | n + 1, H, .tup xs => (bo (pd n H) xs).map .tuple
 | n + 1, H, .fz xs => (bo (pd n H) xs).map .list
 | n + 1, H, .lst k => match H.lst k with
  | some xs => (bo (pd n H) xs).map .list
  | none => none
 | _, _, _ => none
noncomputable def mh (H : MH) (v : MV) : Option (List MV) := match v with
 | .fz xs => some xs
 | .lst k => H.lst k
 | _ => none
noncomputable def jo (H : MH) (v : MV) : Option (List MV) := match v with
 | .fz xs => some xs
 | .tup xs => some xs
 | .lst k => H.lst k
 | _ => none
noncomputable def cH : Nat := 10000
noncomputable def aC (xs : List MV) : Bool := decide (xs.length <= cH)
noncomputable def cB : MV -> Option Int
 | .int i => some i
 | _ => none
noncomputable def om : MV -> Option Bool
 | .bool i => some i
 | _ => none
noncomputable def eP : MV -> Option Str
 | .str s => some s
 | _ => none
noncomputable def jL : MV -> Option Nat
 | .lst k => some k
 | _ => none
noncomputable def fM : MV -> Option Nat
 | .dct k => some k
 | _ => none
noncomputable def yz : MV -> Option (List MV)
 | .fz xs => some xs
 | _ => none
noncomputable def tI : MV -> Option (Nat × Nat)
 | .ins c k => some (c, k)
 | _ => none
noncomputable def dS : MD -> Option (List (Str × MV))
 | .s es => some es
 | .i _ => none
noncomputable def dI : MD -> Option (List (Int × MV))
 | .i es => some es
 | .s _ => none
noncomputable def dE : MD -> Bool
 | .s [] => true
 | _ => false
noncomputable def sP : PyData -> Option (List PyData)
 | .list ds => some ds
 | .tuple ds => some ds
 | _ => none
noncomputable def eqM (a b : MV) : M Bool := fun H => (pd 6 H a).bind fun da => (pd 6 H b).bind fun db => if SeqAt.shaped da && SeqAt.shaped db then some (PyData.eqv da db, H) else none
noncomputable def nt (a : MV) : M Bool := fun H => (mh H a).bind fun xs => if aC xs then some (xs.isEmpty, H) else none
noncomputable def inM (x c : MV) : M Bool := fun H => (pd 6 H x).bind fun d => (pd 6 H c).bind fun c => (sP c).bind fun ds => if SeqAt.shaped d && SeqAt.shaped c then some (ds.any fun y => PyData.eqv y d, H) else none
noncomputable def jt (s : Str) (x : Str) : Option Bool := match s.cps.toList with
 | [c] => some (x.cps.toList.contains c)
 | _ => none
noncomputable def rC (x c : MV) : M Bool := fun H => (eP c).elim ((fM c).elim (inM x c H) fun k => (cB x).bind fun i => (H.dct k).bind fun d => (dI d).bind fun es => some ((aA es i).isSome, H)) fun t => (eP x).bind fun s => (jt s t).bind fun b => some (b, H)
noncomputable def fD (i : Int) : Bool := decide (i.natAbs < 2 ^ 62)
noncomputable def isNone : MV -> Bool
 | .none => true
 | _ => false
noncomputable def az (op : CmpOp) (a b : MV) : M MV := fun H => match op with
 | .Eq => (eqM a b H).bind fun r => some (.bool r.1, r.2)
 | .NotEq => (eqM a b H).bind fun r => some (.bool (!r.1), r.2)
 | .In => (rC a b H).bind fun r => some (.bool r.1, r.2)
 | .NotIn => (rC a b H).bind fun r => some (.bool (!r.1), r.2)
 | .Is => if isNone b then some (.bool (isNone a), H) else none
 | .IsNot => if isNone b then some (.bool (!isNone a), H) else none
 | .Lt => (cB a).bind fun i => (cB b).bind fun j => some (.bool (decide (i < j)), H)
 | .Gt => (cB a).bind fun i => (cB b).bind fun j => some (.bool (decide (j < i)), H)
 | _ => none
noncomputable def ti : Operator -> Bool
 | .Add => true
 | _ => false
noncomputable def tK (op : Operator) (i j : Int) : Option Int := match op with
 | .Add => if fD i && fD j then some (i + j) else none
 | .Sub => if fD i && fD j then some (i - j) else none
 | .Mult => if fD i && fD j then some (i * j) else none
 | .Mod => if decide (0 < j) && fD j then some (Int.fmod i j) else none
 | _ => none
noncomputable def xb (a b : MV) : M MV := fun H => (mh H a).bind fun xs => (mh H b).bind fun ys => if aC xs && aC ys then some (.fz (xs ++ ys), H) else none
noncomputable def u7 (a b : MV) : M MV := fun H => (eP a).elim (xb a b H) fun s => (eP b).bind fun t => if decide (s.cps.size <= cH) && decide (t.cps.size <= cH) then some (.str (s ++ t), H) else none
noncomputable def dz (op : Operator) (a b : MV) : M MV := fun H => (cB a).elim (if ti op then u7 a b H else none) fun i => (cB b).bind fun j => (tK op i j).bind fun v => some (.int v, H)
noncomputable def iT (op : Operator) (a b : MV) : M MV := fun H => if ti op then (cB a).elim ((jL a).bind fun k => (yz b).bind fun ys => (H.lst k).bind fun xs => if aC xs && aC ys then some (.lst k, H.putL k (xs ++ ys)) else none)
 fun i => (cB b).bind fun j => if fD i && fD j then some (.int (i + j), H) else none else none
noncomputable def ae (v : MV) : M Bool := fun H => (om v).bind fun b => some (b, H)
noncomputable def am (okF : Nat -> Str -> Bool) (o : MV) (n : Str) : M MV := fun H => (tI o).bind fun p => (H.ins p.1 p.2).bind fun fs => if okF p.1 n then (ad fs n).bind fun v => some (v, H) else none
noncomputable def ar (okF : Nat -> Str -> Bool) (o : MV) (n : Str) (v : MV) : M Unit := fun H => (tI o).bind fun p => (H.ins p.1 p.2).bind fun fs => if okF p.1 n && decide (fs.length <= 500) then some ((), H.putI p.1 p.2 (putS n v fs)) else none
noncomputable def nth {α : Type} (xs : List α) (i : Int) : Option α := if 0 <= i then xs[i.toNat]? else if -(xs.length : Int) <= i then xs[(i + xs.length).toNat]? else none
noncomputable def tf (o : MV) (j : Int) : M MV := fun H => (jo H o).bind fun xs => if fD j && aC xs then (nth xs j).bind fun v => some (v, H) else none
noncomputable def aw (o i : MV) : M MV := fun H => (cB i).elim ((eP i).bind fun x => (fM o).bind fun k => (H.dct k).bind fun d => (dS d).bind fun es => (ad es x).bind fun v => some (v, H))
 fun j => (fM o).elim ((eP o).elim (tf o j H) fun s => if fD j && decide (0 <= j) then (s.cps[j.toNat]?).bind fun c => some (.str ⟨#[c]⟩, H) else none)
  fun k => (H.dct k).bind fun d => (dI d).bind fun es => (aA es j).bind fun v => some (v, H)
noncomputable def lP (o lo hi : MV) : M MV := fun H => (mh H o).bind fun xs => (cB hi).elim ((cB lo).bind fun j => if isNone hi && (decide (0 <= j) && decide (j <= xs.length) && aC xs) then some (.fz (xs.drop j.toNat), H) else none)
 fun j => if isNone lo && (decide (0 <= j) && aC xs) then some (.fz (xs.take j.toNat), H) else none
noncomputable def be (o i v : MV) : M Unit := fun H => (eP i).elim ((cB i).bind fun j => (jL o).bind fun k => (H.lst k).bind fun xs => if decide (0 <= j) && decide (j < xs.length) && fD j then some ((), H.putL k (xs.set j.toNat v)) else none)
 fun s => (fM o).bind fun k => (H.dct k).bind fun d => (dS d).bind fun es => if decide (es.length <= cH) then some ((), H.putD k (.s (putS s v es))) else none
noncomputable def jM (o v : MV) : M MV := fun H => (jL o).bind fun k => (H.lst k).bind fun xs => if aC xs then some (.none, H.putL k (xs ++ [v])) else none
noncomputable def wS (o s d : MV) : M MV := fun H => (fM o).bind fun k => (eP s).bind fun x => (H.dct k).bind fun D => (dS D).bind fun es => some ((ad es x).getD d, H)
noncomputable def sF (o i d : MV) : M MV := fun H => (fM o).bind fun k => (H.dct k).bind fun D => (eP i).elim ((cB i).bind fun j => if dE D then some (d, H.putD k (.i [(j, d)])) else
  (dI D).bind fun es => if decide (es.length <= cH) then some ((aA es j).elim (d, H.putD k (.i (es ++ [(j, d)]))) fun v => (v, H)) else none)
 fun x => (dS D).bind fun es => if decide (es.length <= cH) then some ((ad es x).elim (d, H.putD k (.s (es ++ [(x, d)]))) fun v => (v, H)) else none
noncomputable def eO (m : Str) (o : MV) : M Unit := fun H => (jL o).elim ((fM o).bind fun k => (H.dct k).bind fun _ => if decide (m = j7) || decide (m = bh) then some ((), H) else none)
 fun k => (H.lst k).bind fun _ => if m = cG then some ((), H) else none
noncomputable def one {R : Type} (vs : List MV) (f : MV -> M R) : M R := match vs with
 | [v] => f v
 | _ => ai
noncomputable def two {R : Type} (vs : List MV) (f : MV -> MV -> M R) : M R := match vs with
 | [v, u] => f v u
 | _ => ai
noncomputable def aM (m : Str) (o : MV) (vs : List MV) : M MV := if m = cG then one vs (jM o) else if m = j7 then two vs (wS o) else if m = bh then two vs (sF o) else ai
noncomputable def gF (i : Int) : Str := Str.ofString (toString i)
noncomputable def uv (v : MV) : M MV := fun H => (jo H v).bind fun xs => if aC xs then some (.int xs.length, H) else none
noncomputable def yw (H : MH) (i : Int) : Option (MV × MH) := if decide (0 <= i) && decide (i < 10000) then some (.str (gF i), H) else none
noncomputable def wB (v : MV) : M MV := fun H => (cB v).bind (yw H)
noncomputable def wK (v : MV) : M MV := fun H => (om v).bind fun b => some (.int (if b then 1 else 0), H)
noncomputable def wA (v : MV) : M MV := fun H => (mh H v).bind fun xs => if aC xs then some (.tup xs, H) else none
noncomputable def qt (v : MV) : M MV := fun H => (fM v).bind fun k => (H.dct k).bind fun d => if dE d then newD (.s []) H else none
noncomputable def aG (f : Str) (vs : List MV) : M MV := one vs fun v => if f = f0 then uv v else if f = fZ then wB v else if f = dL then wK v else if f = a9 then wA v else if f = bX then qt v else ai
structure Cx where
 okF : Nat -> Str -> Bool
 tab : Str -> Option (List MV -> M MV)
 glob : Str -> Option MV
noncomputable abbrev Kd := Str -> Option NameKind
noncomputable abbrev Rho := List (Str × MV)
inductive Fl where
 | next
 | cont
 | ret (v : MV)
noncomputable def eV {R : Type} (f : Expr -> (MV -> M R) -> M R) : List Expr -> (List MV -> M R) -> M R
 | [], k => k []
 | e :: es, k => f e fun v => eV f es fun vs => k (v :: vs)
inductive Src where
 | lst (k : Nat)
 | fix (xs : List MV)
 | rng (n : Nat)
noncomputable def Src.at_ (H : MH) (j : Nat) : Src -> Option (Option MV)
 | .lst k => (match H.lst k with
  | some xs => some xs[j]?
  | none => none)
 | .fix xs => some xs[j]?
 | .rng n => some (if j < n then some (.int j) else none)
noncomputable def yN : MV -> Option (List MV)
 | .fz xs => some xs
 | .tup xs => some xs
 | _ => none
noncomputable def bw (v : MV) : M (Src × Nat) := fun H => (jL v).elim ((yN v).bind fun xs => if aC xs then some ((.fix xs, xs.length + 1), H) else none) fun k => (H.lst k).bind fun xs => if aC xs then some ((.lst k, xs.length + 1), H) else none
noncomputable def ba (src : Src) (body : MV -> Rho -> M (Fl × Rho)) : Nat -> Nat -> Rho -> M (Fl × Rho)
 | 0, _, _ => ai
 | f + 1, j, ρ => fun H => match src.at_ H j with
  | none => none
  | some none => some ((.next, ρ), H)
  | some (some v) => aa (body v ρ) (fun r => match r.1 with
   | .ret x => ac (.ret x, r.2)
   | _ => ba src body f (j + 1) r.2) H
noncomputable def aH (src : Src) (step : MV -> M (Option MV)) : Nat -> Nat -> M (List MV)
 | 0, _ => ai
 | f + 1, j => fun H => match src.at_ H j with
  | none => none
  | some none => some ([], H)
  | some (some v) => aa (step v) (fun r => aa (aH src step f (j + 1)) fun ys => match r with
   | some y => ac (y :: ys)
   | none => ac ys) H
noncomputable def dG (test : Rho -> M Bool) (body : Rho -> M (Fl × Rho)) : Nat -> Rho -> M (Fl × Rho)
 | 0, _ => ai
 | n + 1, ρ => aa (test ρ) fun b => if b then aa (body ρ) fun r => match r.1 with
   | .ret x => ac (.ret x, r.2)
   | _ => dG test body n r.2
  else ac (.next, ρ)
noncomputable def vq : Const -> Option MV
 | .none => some .none
 | .bool b => some (.bool b)
 | .int i => some (.int i)
 | .str s => some (.str s)
 | _ => none
noncomputable def gm (sc : Scope) (kd : Kd) : Kd := fun x => match sc.names.lookup x with
 | some .free => if kd x = some .cell then some .cell else some .free
 | k => k
inductive EV where
 | name (x : Str)
 | attr (o : Expr) (m : Str) (p : Pos)
 | tup (ts : List Expr)
 | nil
 | lst
 | slice (r : Option Expr × Option Expr × Option Expr)
 | int (i : Int)
 | str
 | set
 | comp
 | star
 | other
noncomputable def ev : Expr -> EV
 | .Name x _ => .name x
 | .Attribute o m p => .attr o m p
 | .Tuple ts _ _ => .tup ts
 | .List es _ => if es.isEmpty then .nil else .lst
 | .Slice lo hi st _ => .slice (lo, hi, st)
 | .Constant c _ _ => (match c with
  | .int i => .int i
  | .str _ => .str
  | _ => .other)
 | .Set .. => .set
 | .ListComp .. => .comp
 | .Starred .. => .star
 | _ => .other
noncomputable def yK (e : Expr) : EV -> Prop
 | .name x => ∃ p, e = .Name x p
 | .attr o m p => e = .Attribute o m p
 | .tup ts => ∃ c p, e = .Tuple ts c p
 | .nil => ∃ p, e = .List [] p
 | .slice r => ∃ p, e = .Slice r.1 r.2.1 r.2.2 p
 | .int i => ∃ p1 p2, e = .Constant (.int i) p1 p2
 | .str => ∃ y p1 p2, e = .Constant (.str y) p1 p2
 | .star => ∃ e' p, e = .Starred e' p
 | _ => True
theorem qo (e : Expr) : yK e (ev e) := by
 cases e with
 | Name x p => exact ⟨p, rfl⟩
 | Attribute o m p => exact rfl
 | Tuple ts c p => exact ⟨c, p, rfl⟩
 | Slice lo hi st p => exact ⟨p, rfl⟩
 | Starred e' p => exact ⟨e', p, rfl⟩
 | List es p => cases es with
  | nil => exact ⟨p, rfl⟩
  | cons _ _ => exact True.intro
 | Constant c p1 p2 => cases c with
  | int i => exact ⟨p1, p2, rfl⟩
  | str y => exact ⟨y, p1, p2, rfl⟩
  | _ => exact True.intro
 | _ => exact True.intro
noncomputable def aT (e : Expr) : Option Str := match ev e with
 | .name x => some x
 | _ => none
noncomputable def cL (e : Expr) : Option (Expr × Str × Pos) := match ev e with
 | .attr o m p => some (o, m, p)
 | _ => none
noncomputable def gN (e : Expr) : Option (List Expr) := match ev e with
 | .tup ts => some ts
 | _ => none
noncomputable def di (e : Expr) : Option (Option Expr × Option Expr × Option Expr) := match ev e with
 | .slice r => some r
 | _ => none
noncomputable def qh (e : Expr) : Option Int := match ev e with
 | .int i => some i
 | _ => none
noncomputable def jB (e : Expr) : Bool := match ev e with
 | .nil => true
 | _ => false
noncomputable def kE (e : Expr) : Bool := match ev e with
 | .str => true
 | _ => false
noncomputable def jC (e : Expr) : Bool := match ev e with
 | .nil => true
 | .lst => true
 | _ => false
noncomputable def cX (e : Expr) : Bool := match ev e with
 | .set => true
 | _ => false
noncomputable def nH (e : Expr) : Bool := match ev e with
 | .comp => true
 | _ => false
noncomputable def bj (e : Expr) : Bool := match ev e with
 | .star => false
 | _ => true
theorem lF {e : Expr} (h : bj e = false) : ∃ e' p, e = .Starred e' p := by
 have k := qo e
 change (match ev e with
  | .star => false
  | _ => true) = false at h
 generalize ev e = v at h k
 cases v with
 | star => exact k
 | _ => exact (Bool.false_ne_true h.symm).elim
theorem fE {α : Type} {e : Expr} {f : EV -> Option α} {r : α} {P : Prop} (h : f (ev e) = some r) (k : ∀ v, yK e v -> f v = some r -> P) : P := k _ (qo e) h
theorem bx {e : Expr} {y : Str} (h : aT e = some y) : ∃ p, e = .Name y p := fE (f := fun | .name x => some x | _ => none) h fun v k h => by
 cases v with
 | name x => obtain rfl := Option.some.inj h; exact k
 | _ => exact nos h
theorem fL {e o : Expr} {m : Str} {p : Pos} (h : cL e = some (o, m, p)) : e = .Attribute o m p := fE (f := fun | .attr o m p => some (o, m, p) | _ => none) h fun v k h => by
 cases v with
 | attr _ _ _ => cases h; exact k
 | _ => exact nos h
theorem jW {e : Expr} {ts : List Expr} (h : gN e = some ts) : ∃ c p, e = .Tuple ts c p := fE (f := fun | .tup ts => some ts | _ => none) h fun v k h => by
 cases v with
 | tup _ => obtain rfl := Option.some.inj h; exact k
 | _ => exact nos h
theorem lg {e : Expr} {r : Option Expr × Option Expr × Option Expr} (h : di e = some r) : ∃ p, e = .Slice r.1 r.2.1 r.2.2 p := fE (f := fun | .slice r => some r | _ => none) h fun v k h => by
 cases v with
 | slice _ => obtain rfl := Option.some.inj h; exact k
 | _ => exact nos h
theorem qf {e : Expr} {i : Int} (h : qh e = some i) : ∃ p1 p2, e = .Constant (.int i) p1 p2 := fE (f := fun | .int i => some i | _ => none) h fun v k h => by
 cases v with
 | int _ => obtain rfl := Option.some.inj h; exact k
 | _ => exact nos h
theorem kF {e : Expr} (h : jB e = true) : ∃ p, e = .List [] p := by
 have k := qo e
 change (match ev e with
  | .nil => true
  | _ => false) = true at h
 generalize ev e = v at h k
 cases v with
 | nil => exact k
 | _ => exact (Bool.false_ne_true h).elim
theorem nG {e : Expr} (h : kE e = true) : ∃ y p1 p2, e = .Constant (.str y) p1 p2 := by
 have k := qo e
 change (match ev e with
  | .str => true
  | _ => false) = true at h
 generalize ev e = v at h k
 cases v with
 | str => exact k
 | _ => exact (Bool.false_ne_true h).elim
noncomputable def orM (xs : List (M MV)) : M MV := match xs with
 | [] => ai
 | [x] => x
 | x :: r => aa x fun v => aa (ae v) fun b => if b then ac v else orM r
noncomputable def mj (xs : List (M MV)) : M MV := match xs with
 | [] => ai
 | [x] => x
 | x :: r => aa x fun v => aa (ae v) fun b => if b then mj r else ac v
noncomputable def orB (xs : List (M Bool)) : M Bool := match xs with
 | [] => ac false
 | x :: r => aa x fun b => if b then ac true else orB r
noncomputable def bq (xs : List (M Bool)) : M Bool := match xs with
 | [] => ac true
 | x :: r => aa x fun b => if b then bq r else ac false
noncomputable def aV (kd : Kd) (x : Str) : Bool := kd x = some .local || kd x = some .cell
noncomputable def bk (kd : Kd) : List Expr -> List MV -> Rho -> Option Rho
 | [], [], ρ => some ρ
 | t :: ts, v :: vs, ρ => (match aT t with
  | some x => if aV kd x then bk kd ts vs ((x, v) :: ρ) else none
  | none => none)
 | _, _, _ => none
noncomputable def cC (v : MV) (n : Nat) : M (List MV) := fun H => match jo H v with
 | some xs => if xs.length = n then some (xs, H) else none
 | none => none
noncomputable def eB {R : Type} (v : MV) (m : M R) : M R := match v with
 | .int _ => m
 | _ => ai
noncomputable def pe {R : Type} (v : MV) (k : Src × Nat -> M R) : M R := match v with
 | .int i => if decide (0 <= i) && decide (i <= cH) then k (.rng i.toNat, i.toNat + 1) else ai
 | _ => ai
noncomputable def un2 (v : MV) (k : MV -> MV -> M Rho) : M Rho := aa (cC v 2) fun vs => match vs with
 | [x, y] => k x y
 | _ => ai
noncomputable def bc : Expr -> Bool
 | .Call f as ks _ => !((aT f).isSome && as.isEmpty && ks.isEmpty)
 | _ => true
noncomputable def gA : Str := ⟨#[95, 95, 100, 101, 98, 117, 103, 95, 95]⟩
noncomputable def bL : Str := ⟨#[95, 95, 99, 108, 97, 115, 115, 100, 105, 99, 116, 95, 95]⟩
noncomputable def cz : Str := ⟨#[46, 48]⟩
noncomputable def aW {R : Type} (ρ : Rho) (m : M R) : M R := if (ad ρ cz).isNone then m else ai
noncomputable def ci (sc : Scope) (kd : Kd) (x : Str) : Bool := sc.kind == .function && sc.names.lookup x == some .local && sc.names.lookup gA == none && sc.names.lookup bL == none &&
 sc.names.all fun p => p.2 != .cell && (p.2 != .local || (p.1 == x || (p.1 == cz && sc.names.lookup cz == some .local))) && (p.2 != .free || (kd p.1 == some .cell || kd p.1 == some .free))
noncomputable def cK (f : Str) : Bool := decide (f ∈ [f0, fZ, dL, a9, bX])
noncomputable def kA (op : CmpOp) (r : Expr) : Option Bool := if jB r then (match op with
 | .Eq => some true
 | .NotEq => some false
 | _ => none) else none
noncomputable def fC (m : Str) : List Expr -> Option Expr
 | [a, b] => if m = j7 /\ jB b = true then some a else none
 | _ => none
noncomputable def eh : List Expr -> Option (Expr × Str)
 | [a, b] => (match aT b with
  | some t => some (a, t)
  | none => none)
 | _ => none
noncomputable def eS : Expr -> Option (Str × Expr)
 | .Call f as ks _ => (match aT f, as, ks with
  | some x, [a], [] => some (x, a)
  | _, _, _ => none)
 | _ => none
noncomputable def dg : List Expr -> Option ((Expr × Str) × Expr × Str)
 | [a, b] => (match cL a, cL b with
  | some (o, x, _), some (o', x', _) => some ((o, x), o', x')
  | _, _ => none)
 | _ => none
noncomputable def few (es : List Expr) : Bool := decide (es.length < 30) && es.all bj
mutual
noncomputable def evE {R : Type} (cx : Cx) : Nat -> Kd -> Rho -> Expr -> (MV -> M R) -> M R
 | 0, _, _, _, _ => ai
 | n + 1, kd, ρ, e, k => match e with
  | .Constant c _ _ => (match vq c with
   | some v => k v
   | none => ai)
  | .Name x _ => (match kd x with
   | some .globalImplicit => (match cx.glob x with
    | some v => k v
    | none => ai)
   | some .globalExplicit => ai
   | some _ => (match ad ρ x with
    | some v => k v
    | none => ai)
   | none => ai)
  | .Attribute v a _ => if bc v then evE cx n kd ρ v fun o => aa (am cx.okF o a) k else ai
  | .Call f args kws pos => if few args && kws.isEmpty then (match aT f with
    | some fn => if kd fn = some .globalImplicit then (match cx.tab fn with
      | some g => eV (evE cx n kd ρ) args fun vs => aa (g vs) k
      | none => if fn = ao then (match eh args with
        | some (a, t) => if t = dL /\ kd t = some .globalImplicit /\ cx.tab t = none then evE cx n kd ρ a fun v => eB v (k (.bool true)) else ai
        | none => ai)
       else if cK fn then eV (evE cx n kd ρ) args fun vs => aa (aG fn vs) k else ai)
     else ai
    | none => (match cL f with
     | some (o, m, apos) => if bc o && apos.endLine == pos.line then evE cx n kd ρ o fun ov => aa (eO m ov) fun _ => (match fC m args with
      | some a => evE cx n kd ρ a fun v => aa (aM m ov [v, .fz []]) k
      | none => eV (evE cx n kd ρ) args fun vs => aa (aM m ov vs) k) else ai
     | none => ai)) else ai
  | .Subscript v i _ => evE cx n kd ρ v fun o => (match di i with
   | none => evE cx n kd ρ i fun iv => aa (aw o iv) k
   | some (none, some h, none) => evE cx n kd ρ h fun hv => aa (lP o .none hv) k
   | some (some l, none, none) => evE cx n kd ρ l fun lv => aa (lP o lv .none) k
   | _ => ai)
  | .BinOp l op r _ => evE cx n kd ρ l fun a => evX cx n kd ρ r fun b => aa (dz op a b) k
  | .Compare l ops rs _ => (match ops, rs with
   | [op], [r] => if cX r then ai else (match kA op r with
    | some c => evE cx n kd ρ l fun a => aa (nt a) fun b => k (.bool (bif c then b else !b))
    | none => evE cx n kd ρ l fun a => evX cx n kd ρ r fun b => aa (az op a b) k)
   | _, _ => ai)
  | .BoolOp op vs _ => (match op with
   | .Or => aa (orM (vs.map fun x => evE cx n kd ρ x ac)) k
   | .And => aa (mj (vs.map fun x => evE cx n kd ρ x ac)) k)
  | .UnaryOp op x _ => (match op with
   | .Not => evE cx n kd ρ x fun v => aa (ae v) fun b => k (.bool (!b))
   | .USub => (match qh x with
    | some i => k (.int (-i))
    | none => ai)
   | _ => ai)
  | .IfExp t b o _ => aa (aa (evB cx n kd ρ t) fun c => if c then evE cx n kd ρ b ac else evE cx n kd ρ o ac) k
  | .Tuple es _ _ => if few es then eV (evE cx n kd ρ) es fun vs => k (.tup vs) else ai
  | .List es _ => if few es then eV (evE cx n kd ρ) es fun vs => aa (newL vs) k else ai
  | .Dict ks vs _ => (match ks, vs with
   | [], [] => aa (newD (.s [])) k
   | [some c], [v] => if kE c then evE cx n kd ρ v fun _ => k .junk else ai
   | _, _ => ai)
  | .ListComp elt gens sc _ => (match gens with
   | [⟨t, iter, ifs, a⟩] => (match aT t with
    | some x => if a == 0 && (ci sc kd x && !cX iter) then
      aW ρ <| evI cx n kd ρ iter fun src => aa (aH src.1 (fun v =>
       aa (bq (ifs.map fun t => evB cx n (gm sc kd) ((x, v) :: ρ) t)) fun ok => if ok then evE cx n (gm sc kd) ((x, v) :: ρ) elt fun y => ac (some y) else ac none) src.2 0) fun ys => if aC ys then k (.fz ys) else ai
     else ai
    | none => ai)
   | _ => ai)
  | _ => ai
noncomputable def evX {R : Type} (cx : Cx) : Nat -> Kd -> Rho -> Expr -> (MV -> M R) -> M R
 | 0, _, _, _, _ => ai
 | n + 1, kd, ρ, e, k => match e with
  | .List es _ => if few es then eV (evE cx n kd ρ) es fun vs => k (.fz vs) else ai
  | e => evE cx n kd ρ e k
noncomputable def evI {R : Type} (cx : Cx) : Nat -> Kd -> Rho -> Expr -> (Src × Nat -> M R) -> M R
 | 0, _, _, _, _ => ai
 | n + 1, kd, ρ, e, k => match eS e with
  | some (f, a) => if f = aQ /\ kd f = some .globalImplicit /\ cx.tab f = none then evE cx n kd ρ a fun v => pe v k
   else evE cx n kd ρ e fun v => aa (bw v) k
  | none => evE cx n kd ρ e fun v => aa (bw v) k
noncomputable def evB (cx : Cx) : Nat -> Kd -> Rho -> Expr -> M Bool
 | 0, _, _, _ => ai
 | n + 1, kd, ρ, e => match e with
  | .UnaryOp op x p => (match op with
   | .Not => aa (evB cx n kd ρ x) fun b => ac (!b)
   | op => evE cx n kd ρ (.UnaryOp op x p) ae)
  | .BoolOp op vs _ => (match op with
   | .Or => orB (vs.map fun x => evB cx n kd ρ x)
   | .And => bq (vs.map fun x => evB cx n kd ρ x))
  | .IfExp .. => ai
  | e => evE cx n kd ρ e ae
end
noncomputable def pj (kd : Kd) (ts vs : List Expr) : Bool := match ts, vs with
 | [t, u], [a, b] => (match aT t, aT u with
  | some x, some y => kd x != some .local || kd y != some .local || (x != y && !([a, b].all (foldedForSure 8)) && !([a, b].all (constantsAlone 8)))
  | _, _ => false)
 | _, _ => false
noncomputable def ij (kd : Kd) (t v : Expr) : Bool := !jC t && (match gN t, gN v with
 | some ts, some vs => (dg ts).isSome || pj kd ts vs
 | _, _ => true)
noncomputable def asg (cx : Cx) (n : Nat) (kd : Kd) (ρ : Rho) (t : Expr) (v : MV) : M Rho := match t with
 | .Name x _ => if aV kd x then ac ((x, v) :: ρ) else ai
 | .Attribute o a _ => evE cx n kd ρ o fun ov => aa (ar cx.okF ov a v) fun _ => ac ρ
 | .Subscript o i _ => if (di i).isSome then ai else evE cx n kd ρ o fun ov => evE cx n kd ρ i fun iv => aa (be ov iv v) fun _ => ac ρ
 | .Tuple ts _ _ => (match dg ts with
  | some ((o, a), o', a') => un2 v fun x y => evE cx n kd ρ o fun ov => aa (ar cx.okF ov a x) fun _ => evE cx n kd ρ o' fun ov => aa (ar cx.okF ov a' y) fun _ => ac ρ
  | none => aa (cC v ts.length) fun vs => (match bk kd ts vs ρ with
   | some ρ' => ac ρ'
   | none => ai))
 | _ => ai
mutual
noncomputable def evS (cx : Cx) : Nat -> Kd -> Rho -> Stmt -> M (Fl × Rho)
 | 0, _, _, _ => ai
 | n + 1, kd, ρ, st => match st with
  | .Expr e _ => if nH e then ai else evE cx n kd ρ e fun _ => ac (.next, ρ)
  | .Return (some e) _ => evE cx n kd ρ e fun v => ac (.ret v, ρ)
  | .Return none _ => ac (.ret .none, ρ)
  | .Continue _ => ac (.cont, ρ)
  | .Assign [t] v _ => if ij kd t v then evE cx n kd ρ v fun x => aa (asg cx n kd ρ t x) fun ρ' => ac (.next, ρ') else ai
  | .AugAssign (.Name x _) op v _ => (match kd x, ad ρ x with
   | some .local, some a => evE cx n kd ρ v fun b => aa (iT op a b) fun c => ac (.next, (x, c) :: ρ)
   | some .cell, some a => evE cx n kd ρ v fun b => aa (iT op a b) fun c => ac (.next, (x, c) :: ρ)
   | _, _ => ai)
  | .AugAssign (.Attribute o at' _) op v _ => evE cx n kd ρ o fun ov => aa (am cx.okF ov at') fun a => evE cx n kd ρ v fun b => aa (iT op a b) fun c => aa (ar cx.okF ov at' c) fun _ => ac (.next, ρ)
  | .If t b o _ => aa (evB cx n kd ρ t) fun c => if c then ie cx n kd ρ b else ie cx n kd ρ o
  | .While t b [] _ => dG (fun ρ => evB cx n kd ρ t) (fun ρ => ie cx n kd ρ b) 20 ρ
  | .For t i b [] _ => if cX i then ai else evI cx n kd ρ i fun src => ba src.1 (fun v ρ => aa (asg cx n kd ρ t v) fun ρ' => ie cx n kd ρ' b) src.2 0 ρ
  | _ => ai
noncomputable def ie (cx : Cx) : Nat -> Kd -> Rho -> List Stmt -> M (Fl × Rho)
 | 0, _, _, _ => ai
 | n + 1, kd, ρ, l => match l with
  | [] => ac (.next, ρ)
  | st :: r => aa (evS cx n kd ρ st) fun x => match x.1 with
   | .next => ie cx n kd x.2 r
   | f => ac (f, x.2)
end
noncomputable def cM : List Arg -> List MV -> Option Rho
 | [], [] => some []
 | a :: as, v :: vs => (cM as vs).map fun r => (a.arg, v) :: r
 | _, _ => none
noncomputable def bA (sc : Scope) : Kd := fun x => sc.names.lookup x
noncomputable def evF (cx : Cx) (params : Arguments) (body : List Stmt) (sc : Scope) (vs : List MV) : M MV := match cM params.args vs with
 | some ρ => aa (ie cx 60 (bA sc) ρ body) fun r => match r.1 with
  | .ret v => ac v
  | .next => ac .none
  | .cont => ai
 | none => ai
structure Mp where
 at_ : Nat -> Addr
 own : Addr -> Option (Option Nat)
noncomputable def Mp.np (μ : Mp) (b : Addr) : Prop := ∀ k, μ.own b ≠ some (some k)
theorem aE {μ : Mp} {b : Addr} (h : μ.own b = none) : μ.np b := fun k e => by rw [h] at e; cases e
theorem gD {μ : Mp} {b : Addr} (h : μ.own b = some none) : μ.np b := fun k e => by rw [h] at e; cases e
noncomputable abbrev w0 (vs : List Value) (ep : Nat) (dd : Option Addr) (sl : Array (Option Value)) : Obj := { cls := .type "tuple", dict := dd, data := .seq vs.toArray ep, slots := sl }
noncomputable abbrev gZ (vs : List Value) (ep : Nat) : Obj := { cls := .type "list", data := .seq vs.toArray ep }
mutual
inductive av (μ : Mp) (n : Nat) (h : Heap) : MV -> Value -> Prop
 | none : av μ n h .none .none
 | bool (b : Bool) : av μ n h (.bool b) (.bool b)
 | int (i : Int) (t : Tok) : av μ n h (.int i) (.int i t)
 | str (s : Str) (t : Tok) : av μ n h (.str s) (.str s t)
 | tup {xs : List MV} {vs : List Value} {a : Addr} {ep : Nat} {dd : Option Addr} {sl : Array (Option Value)} : h.get? a = some (w0 vs ep dd sl) -> μ.own a = Option.none -> ax μ n h xs vs -> av μ n h (.tup xs) (.ref a)
 | fz {xs : List MV} {vs : List Value} {a : Addr} {ep : Nat} : h.get? a = some (gZ vs ep) -> μ.own a = Option.none -> ax μ n h xs vs -> av μ n h (.fz xs) (.ref a)
 | ins (c k : Nat) : k < n -> av μ n h (.ins c k) (.ref (μ.at_ k))
 | lst (k : Nat) : k < n -> av μ n h (.lst k) (.ref (μ.at_ k))
 | dct (k : Nat) : k < n -> av μ n h (.dct k) (.ref (μ.at_ k))
 | junk (a : Addr) : av μ n h .junk (.ref a)
inductive ax (μ : Mp) (n : Nat) (h : Heap) : List MV -> List Value -> Prop
 | nil : ax μ n h [] []
 | cons {x : MV} {v : Value} {xs : List MV} {vs : List Value} : av μ n h x v -> ax μ n h xs vs -> ax μ n h (x :: xs) (v :: vs)
end
noncomputable def yB (μ : Mp) (n : Nat) (h : Heap) (m : MV) (v : Value) : Prop := match m with
 | .none => v = .none
 | .bool b => v = .bool b
 | .int i => ∃ t, v = .int i t
 | .str s => ∃ t, v = .str s t
 | .tup xs => ∃ a vs ep dd sl, v = .ref a /\ h.get? a = some (w0 vs ep dd sl) /\ μ.own a = Option.none /\ ax μ n h xs vs
 | .fz xs => ∃ a vs ep, v = .ref a /\ h.get? a = some (gZ vs ep) /\ μ.own a = Option.none /\ ax μ n h xs vs
 | .ins _ k => v = .ref (μ.at_ k) /\ k < n
 | .lst k => v = .ref (μ.at_ k) /\ k < n
 | .dct k => v = .ref (μ.at_ k) /\ k < n
 | .junk => ∃ a, v = .ref a
theorem av.view {μ : Mp} {n : Nat} {h : Heap} {m : MV} {v : Value} (r : av μ n h m v) : yB μ n h m v := by
 cases r with
 | none => exact rfl
 | bool b => exact rfl
 | int i t => exact ⟨t, rfl⟩
 | str s t => exact ⟨t, rfl⟩
 | tup a b c => exact ⟨_, _, _, _, _, rfl, a, b, c⟩
 | fz a b c => exact ⟨_, _, _, rfl, a, b, c⟩
 | ins c k hk => exact ⟨rfl, hk⟩
 | lst k hk => exact ⟨rfl, hk⟩
 | dct k hk => exact ⟨rfl, hk⟩
 | junk a => exact ⟨a, rfl⟩
theorem ax.inil {μ : Mp} {n : Nat} {h : Heap} {vs : List Value} (r : ax μ n h [] vs) : vs = [] := by cases r; rfl
theorem ax.icons {μ : Mp} {n : Nat} {h : Heap} {x : MV} {xs : List MV} {vs : List Value} (r : ax μ n h (x :: xs) vs) : ∃ v vs', vs = v :: vs' /\ av μ n h x v /\ ax μ n h xs vs' := by cases r with | cons a b => exact ⟨_, _, rfl, a, b⟩
theorem qC {a : MV} {i : Int} (h : cB a = some i) : a = .int i := by
 cases a with
 | int _ => rw [Option.some.inj h]
 | _ => exact nos h
theorem qB {a : MV} {i : Str} (h : eP a = some i) : a = .str i := by
 cases a with
 | str _ => rw [Option.some.inj h]
 | _ => exact nos h
theorem kO {a : MV} {i : Nat} (h : jL a = some i) : a = .lst i := by
 cases a with
 | lst _ => rw [Option.some.inj h]
 | _ => exact nos h
theorem kQ {a : MV} {i : Nat} (h : fM a = some i) : a = .dct i := by
 cases a with
 | dct _ => rw [Option.some.inj h]
 | _ => exact nos h
theorem tJ {a : MV} {i : List MV} (h : yz a = some i) : a = .fz i := by
 cases a with
 | fz _ => rw [Option.some.inj h]
 | _ => exact nos h
theorem oj {a : MV} {i : Bool} (h : om a = some i) : a = .bool i := by
 cases a with
 | bool _ => rw [Option.some.inj h]
 | _ => exact nos h
theorem kP {a : MV} {p : Nat × Nat} (h : tI a = some p) : a = .ins p.1 p.2 := by
 cases a with
 | ins _ _ => rw [<- Option.some.inj h]
 | _ => exact nos h
theorem qu {a : MD} {es : List (Str × MV)} (h : dS a = some es) : a = .s es := by
 cases a with
 | s _ => rw [Option.some.inj h]
 | i _ => exact nos h
theorem tE {a : MD} {es : List (Int × MV)} (h : dI a = some es) : a = .i es := by
 cases a with
 | i _ => rw [Option.some.inj h]
 | s _ => exact nos h
theorem vp {a : MD} (h : dE a = true) : a = .s [] := by
 cases a with
 | i _ => cases h
 | s l => cases l with
  | nil => rfl
  | cons _ _ => cases h
theorem dO {a : MV} (h : isNone a = true) : a = .none := by
 cases a with
 | none => rfl
 | _ => cases h
section
variable {μ : Mp} {n : Nat} {h : Heap} {m : MV} {v : Value} {P : Value -> Prop}
@[elab_as_elim] theorem av.intC {i : Int} (r : av μ n h m v) (q : cB m = some i) (k : ∀ t, P (.int i t)) : P v := by
 obtain rfl := qC q
 obtain ⟨t, rfl⟩ := r.view
 exact k t
@[elab_as_elim] theorem av.strC {i : Str} (r : av μ n h m v) (q : eP m = some i) (k : ∀ t, P (.str i t)) : P v := by
 obtain rfl := qB q
 obtain ⟨t, rfl⟩ := r.view
 exact k t
@[elab_as_elim] theorem av.lstC {i : Nat} (r : av μ n h m v) (q : jL m = some i) (k : i < n -> P (.ref (μ.at_ i))) : P v := by
 obtain rfl := kO q
 obtain ⟨rfl, hk⟩ := r.view
 exact k hk
@[elab_as_elim] theorem av.dctC {i : Nat} (r : av μ n h m v) (q : fM m = some i) (k : i < n -> P (.ref (μ.at_ i))) : P v := by
 obtain rfl := kQ q
 obtain ⟨rfl, hk⟩ := r.view
 exact k hk
end
inductive gu (μ : Mp) (n : Nat) (h : Heap) : aY -> List DictEntry -> Prop
 | nil : gu μ n h [] []
 | cons {f : Str} {x : MV} {v : Value} {fs : aY} {es : List DictEntry} {hs : Int} {t : Tok} : av μ n h x v -> gu μ n h fs es -> gu μ n h ((f, x) :: fs) (⟨hs, .str f t, v⟩ :: es)
inductive eF {α : Type} (μ : Mp) (n : Nat) (h : Heap) : List (α × MV) -> List (α × Value) -> Prop
 | nil : eF μ n h [] []
 | cons {k : α} {x : MV} {v : Value} {es : List (α × MV)} {vs : List (α × Value)} : av μ n h x v -> eF μ n h es vs -> eF μ n h ((k, x) :: es) ((k, v) :: vs)
structure Sim (prog : Program) (w : World) (ca : Nat -> Addr) (base : Heap) (μ : Mp) (H : MH) (h : Heap) : Prop where
 keeps : ∀ b o, base.get? b = some o -> h.get? b = some o
 live : ∀ b k, μ.own b = some k -> ∃ o, h.get? b = some o
 own : ∀ k, k < H.next -> μ.own (μ.at_ k) = some (some k)
 mine : ∀ b k, μ.own b = some k -> base.get? b = none
 ins : ∀ c k fs, H.ins c k = some fs -> k < H.next /\ ∃ d es ep, h.get? (μ.at_ k) = some (instObj (ca c) d) /\ h.get? d = some (dictOf es ep) /\ μ.own d = some (some k) /\ gu μ H.next h fs es
 lst : ∀ k xs, H.lst k = some xs -> k < H.next /\ ∃ vs ep, h.get? (μ.at_ k) = some (gZ vs ep) /\ ax μ H.next h xs vs
 dctS : ∀ k es, H.dct k = some (.s es) -> k < H.next /\ ∃ kvs, h.DictOf (PySem.strKind prog w) (μ.at_ k) kvs /\ eF μ H.next h es kvs
 dctI : ∀ k es, H.dct k = some (.i es) -> k < H.next /\ ∃ kvs, h.DictOf (PySem.intKind prog w) (μ.at_ k) kvs /\ eF μ H.next h es kvs
noncomputable abbrev noF : Addr -> Prop := fun _ => False
noncomputable def iG (o : Obj) : Prop := ∃ xs ep, o.data = .seq xs ep
structure Ext (F : Addr -> Prop) (μ : Mp) (n : Nat) (h : Heap) (μ' : Mp) (n' : Nat) (h' : Heap) : Prop where
 le : n <= n'
 at_ : ∀ k, k < n -> μ'.at_ k = μ.at_ k
 own : ∀ b k, μ.own b = some (some k) -> μ'.own b = some (some k)
 keep : ∀ b o, μ.np b -> (F b -> iG o /\ μ.own b = none) -> h.get? b = some o -> μ'.own b = μ.own b /\ h'.get? b = some o
theorem Ext.refl {F : Addr -> Prop} {μ : Mp} {n : Nat} {h : Heap} : Ext F μ n h μ n h := ⟨Nat.le_refl _, fun _ _ => rfl, fun _ _ e => e, fun _ _ _ _ e => ⟨rfl, e⟩⟩
theorem Ext.trans {F : Addr -> Prop} {μ μ' μ'' : Mp} {n n' n'' : Nat} {h h' h'' : Heap} (x : Ext F μ n h μ' n' h') (y : Ext F μ' n' h' μ'' n'' h'') : Ext F μ n h μ'' n'' h'' :=
 ⟨Nat.le_trans x.le y.le, fun k hk => (y.at_ k (Nat.lt_of_lt_of_le hk x.le)).trans (x.at_ k hk), fun b k e => y.own b k (x.own b k e),
  fun b o hb q e => by
  obtain ⟨x1, x2⟩ := x.keep b o hb q e
  obtain ⟨y1, y2⟩ := y.keep b o (fun k => by rw [x1]; exact hb k) (fun f => ⟨(q f).1, by rw [x1]; exact (q f).2⟩) x2
  exact ⟨y1.trans x1, y2⟩⟩
theorem Ext.weak {F F' : Addr -> Prop} {μ μ' : Mp} {n n' : Nat} {h h' : Heap} (x : Ext F μ n h μ' n' h') (hf : ∀ b, F b -> F' b) : Ext F' μ n h μ' n' h' :=
 ⟨x.le, x.at_, x.own, fun b o hb q e => x.keep b o hb (fun f => q (hf b f)) e⟩
theorem Ext.drop {F : Addr -> Prop} {μ μ' : Mp} {n n' : Nat} {h h' : Heap} (x : Ext F μ n h μ' n' h') (hf : ∀ b, F b -> h.get? b = none) : Ext noF μ n h μ' n' h' :=
 ⟨x.le, x.at_, x.own, fun b o hb _ e => x.keep b o hb (fun f => by rw [hf b f] at e; cases e) e⟩
theorem Ext.any {F : Addr -> Prop} {μ μ' : Mp} {n n' : Nat} {h h' : Heap} (x : Ext noF μ n h μ' n' h') : Ext F μ n h μ' n' h' := x.weak fun _ f => f.elim
theorem Ext.same {F : Addr -> Prop} {μ : Mp} {n : Nat} {h h' : Heap} (keep : ∀ b o, μ.np b -> (F b -> iG o /\ μ.own b = none) -> h.get? b = some o -> h'.get? b = some o) : Ext F μ n h μ n h' :=
 ⟨Nat.le_refl _, fun _ _ => rfl, fun _ _ e => e, fun b o a q e => ⟨rfl, keep b o a q e⟩⟩
theorem av.mono {F : Addr -> Prop} {μ μ' : Mp} {n n' : Nat} {h h' : Heap} (x : Ext F μ n h μ' n' h') {m : MV} {v : Value} (r : av μ n h m v) : av μ' n' h' m v :=
 av.rec (motive_1 := fun m v _ => av μ' n' h' m v) (motive_2 := fun m v _ => ax μ' n' h' m v) .none .bool .int .str
  (fun e o _ ih => .tup (x.keep _ _ (aE o) (fun _ => ⟨⟨_, _, rfl⟩, o⟩) e).2 ((x.keep _ _ (aE o) (fun _ => ⟨⟨_, _, rfl⟩, o⟩) e).1.trans o) ih)
  (fun e o _ ih => .fz (x.keep _ _ (aE o) (fun _ => ⟨⟨_, _, rfl⟩, o⟩) e).2 ((x.keep _ _ (aE o) (fun _ => ⟨⟨_, _, rfl⟩, o⟩) e).1.trans o) ih)
  (fun c k hk => x.at_ k hk ▸ av.ins (μ := μ') (h := h') c k (Nat.lt_of_lt_of_le hk x.le))
  (fun k hk => x.at_ k hk ▸ av.lst (μ := μ') (h := h') k (Nat.lt_of_lt_of_le hk x.le))
  (fun k hk => x.at_ k hk ▸ av.dct (μ := μ') (h := h') k (Nat.lt_of_lt_of_le hk x.le)) .junk .nil (fun _ _ a b => .cons a b) r
theorem ax.mono {F : Addr -> Prop} {μ μ' : Mp} {n n' : Nat} {h h' : Heap} (x : Ext F μ n h μ' n' h') {m : List MV} : ∀ {v : List Value}, ax μ n h m v -> ax μ' n' h' m v := by
 induction m with
 | nil => intro v r; obtain rfl := r.inil; exact .nil
 | cons y ys ih => intro v r; obtain ⟨_, _, rfl, a, r⟩ := r.icons; exact .cons (a.mono x) (ih r)
theorem gu.mono {F : Addr -> Prop} {μ μ' : Mp} {n n' : Nat} {h h' : Heap} (x : Ext F μ n h μ' n' h') {m : aY} {v : List DictEntry} (r : gu μ n h m v) : gu μ' n' h' m v := by
 induction r with
 | nil => exact .nil
 | cons a _ ih => exact .cons (a.mono x) ih
theorem eF.mono {α : Type} {F : Addr -> Prop} {μ μ' : Mp} {n n' : Nat} {h h' : Heap} (x : Ext F μ n h μ' n' h') {m : List (α × MV)} {v : List (α × Value)} (r : eF μ n h m v) : eF μ' n' h' m v := by
 induction r with
 | nil => exact .nil
 | cons a _ ih => exact .cons (a.mono x) ih
theorem ax.len {μ : Mp} {n : Nat} {h : Heap} {m : List MV} : ∀ {v : List Value}, ax μ n h m v -> m.length = v.length := by
 induction m with
 | nil => intro v r; obtain rfl := r.inil; rfl
 | cons y ys ih => intro v r; obtain ⟨_, _, rfl, _, r⟩ := r.icons; rw [List.length_cons, List.length_cons, ih r]
theorem ax.get {μ : Mp} {n : Nat} {h : Heap} {m : List MV} : ∀ {v : List Value}, ax μ n h m v -> ∀ (j : Nat) (x : MV), m[j]? = some x -> ∃ y, v[j]? = some y /\ av μ n h x y := by
 induction m with
 | nil => intro v r j x e; exact nos e
 | cons z zs ih =>
  intro v r j x e
  obtain ⟨w, _, rfl, a, r⟩ := r.icons
  cases j with
  | zero => obtain rfl := Option.some.inj e; exact ⟨w, rfl, a⟩
  | succ j => exact ih r j x e
theorem ax.app {μ : Mp} {n : Nat} {h : Heap} {m m' : List MV} {v' : List Value} (r' : ax μ n h m' v') : ∀ {v : List Value}, ax μ n h m v -> ax μ n h (m ++ m') (v ++ v') := by
 induction m with
 | nil => intro v r; obtain rfl := r.inil; exact r'
 | cons y ys ih => intro v r; obtain ⟨_, _, rfl, a, r⟩ := r.icons; exact .cons a (ih r)
theorem ax.take {μ : Mp} {n : Nat} {h : Heap} {m : List MV} : ∀ {v : List Value} (j : Nat), ax μ n h m v -> ax μ n h (m.take j) (v.take j) := by
 induction m with
 | nil => intro v j r; obtain rfl := r.inil; cases j <;> exact .nil
 | cons y ys ih =>
  intro v j r
  obtain ⟨_, _, rfl, a, r⟩ := r.icons
  cases j with
  | zero => exact .nil
  | succ j => exact .cons a (ih j r)
theorem ax.drop {μ : Mp} {n : Nat} {h : Heap} {m : List MV} : ∀ {v : List Value} (j : Nat), ax μ n h m v -> ax μ n h (m.drop j) (v.drop j) := by
 induction m with
 | nil => intro v j r; obtain rfl := r.inil; cases j <;> exact .nil
 | cons y ys ih =>
  intro v j r
  cases j with
  | zero => exact r
  | succ j => obtain ⟨_, _, rfl, a, r⟩ := r.icons; exact ih j r
theorem ax.set {μ : Mp} {n : Nat} {h : Heap} {x : MV} {y : Value} (hx : av μ n h x y) {m : List MV} : ∀ {v : List Value} (j : Nat), ax μ n h m v -> ax μ n h (m.set j x) (v.set j y) := by
 induction m with
 | nil => intro v j r; obtain rfl := r.inil; cases j <;> exact .nil
 | cons z zs ih =>
  intro v j r
  obtain ⟨_, _, rfl, a, r⟩ := r.icons
  cases j with
  | zero => exact .cons hx r
  | succ j => exact .cons a (ih j r)
theorem a8 {h : Heap} {b : Addr} (hb : h.objs.size <= b) : h.get? b = none := by
 cases q : h.get? b with
 | none => rfl
 | some o => exact absurd (Heap.lt_size q) (Nat.not_lt.mpr hb)
theorem Sim.dead {prog : Program} {w : World} {ca : Nat -> Addr} {base : Heap} {μ : Mp} {H : MH} {h : Heap} (S : Sim prog w ca base μ H h) {b : Addr} (hb : h.get? b = none) : μ.own b = none := by
 cases q : μ.own b with
 | none => rfl
 | some k => obtain ⟨o, e⟩ := S.live b k q; rw [hb] at e; cases e
theorem Sim.new {prog : Program} {w : World} {ca : Nat -> Addr} {base : Heap} {μ : Mp} {H : MH} {h : Heap} (S : Sim prog w ca base μ H h) (b : Addr) (hb : h.objs.size <= b) : μ.own b = none := S.dead (a8 hb)
theorem Sim.grow {prog : Program} {w : World} {ca : Nat -> Addr} {base : Heap} {μ : Mp} {H : MH} {h h' : Heap} (S : Sim prog w ca base μ H h)
  (keep : ∀ b o, h.get? b = some o -> h'.get? b = some o) : Sim prog w ca base μ H h' /\ Ext noF μ H.next h μ H.next h' := by
 have x : Ext noF μ H.next h μ H.next h' := .same fun b o _ _ e => keep b o e
 refine ⟨⟨fun b o e => keep b o (S.keeps b o e), fun b k e => (S.live b k e).imp fun o e => keep b o e, S.own, S.mine, fun c k fs e => ?_, fun k xs e => ?_, fun k es e => ?_, fun k es e => ?_⟩, x⟩
 ·obtain ⟨l, d, es, ep, a, b, c', f⟩ := S.ins c k fs e
  exact ⟨l, d, es, ep, keep _ _ a, keep _ _ b, c', f.mono x⟩
 ·obtain ⟨l, vs, ep, a, b⟩ := S.lst k xs e
  exact ⟨l, vs, ep, keep _ _ a, b.mono x⟩
 ·obtain ⟨l, kvs, a, b⟩ := S.dctS k es e
  exact ⟨l, kvs, a.at fun o e => keep _ o e, b.mono x⟩
 ·obtain ⟨l, kvs, a, b⟩ := S.dctI k es e
  exact ⟨l, kvs, a.at fun o e => keep _ o e, b.mono x⟩
section
variable {prog : Program} {w : World} {ca : Nat -> Addr} {base : Heap} {μ : Mp} {H H' : MH} {h h' : Heap} {k : Nat}
theorem Sim.change (S : Sim prog w ca base μ H h) (hk : k < H.next) (keep : ∀ b o, μ.own b ≠ some (some k) -> h.get? b = some o -> h'.get? b = some o)
  (new : ∀ b, μ.own b = some (some k) -> ∃ o, h'.get? b = some o) (hn : H'.next = H.next)
  (hi : ∀ c k', k' ≠ k -> H'.ins c k' = H.ins c k') (hl : ∀ k', k' ≠ k -> H'.lst k' = H.lst k') (hd : ∀ k', k' ≠ k -> H'.dct k' = H.dct k')
  (ki : ∀ c fs, H'.ins c k = some fs -> ∃ d es ep, h'.get? (μ.at_ k) = some (instObj (ca c) d) /\ h'.get? d = some (dictOf es ep) /\ μ.own d = some (some k) /\ gu μ H.next h' fs es)
  (kl : ∀ xs, H'.lst k = some xs -> ∃ vs ep, h'.get? (μ.at_ k) = some (gZ vs ep) /\ ax μ H.next h' xs vs)
  (ks : ∀ es, H'.dct k = some (.s es) -> ∃ kvs, h'.DictOf (PySem.strKind prog w) (μ.at_ k) kvs /\ eF μ H.next h' es kvs)
  (ke : ∀ es, H'.dct k = some (.i es) -> ∃ kvs, h'.DictOf (PySem.intKind prog w) (μ.at_ k) kvs /\ eF μ H.next h' es kvs) :
  Sim prog w ca base μ H' h' /\ Ext noF μ H.next h μ H.next h' := by
 have x : Ext noF μ H.next h μ H.next h' := .same fun b o q _ e => keep b o (q k) e
 have live : ∀ b j, μ.own b = some j -> ∃ o, h'.get? b = some o := fun b j e => by
  by_cases q : j = some k
  ·subst q; exact new b e
  ·exact (S.live b j e).imp fun o o1 => keep b o (by rw [e]; exact fun z => q (Option.some.inj z)) o1
 refine ⟨⟨fun b o e => ?_, live, by rw [hn]; exact S.own, S.mine, fun c k' fs e => ?_, fun k' xs e => ?_, fun k' es e => ?_, fun k' es e => ?_⟩, x⟩
 ·by_cases q : μ.own b = some (some k)
  ·rw [S.mine b _ q] at e; exact nos e
  ·exact keep b o q (S.keeps b o e)
 ·by_cases q : k' = k
  ·subst q; rw [hn]; exact ⟨hk, ki c fs e⟩
  ·rw [hi c k' q] at e
   refine ay fun X hX => ?_
   obtain ⟨l, d, es, ep, a, b, c', f⟩ := S.ins c k' fs e
   refine hX ?_
   rw [hn]
   refine ⟨l, d, es, ep, keep _ _ ?_ a, keep _ _ ?_ b, c', f.mono x⟩
   ·rw [S.own k' l]; exact fun e => q (Option.some.inj (Option.some.inj e))
   ·rw [c']; exact fun e => q (Option.some.inj (Option.some.inj e))
 ·by_cases q : k' = k
  ·subst q; rw [hn]; exact ⟨hk, kl xs e⟩
  ·rw [hl k' q] at e
   refine ay fun X hX => ?_
   obtain ⟨l, vs, ep, a, b⟩ := S.lst k' xs e
   refine hX ?_
   rw [hn]
   refine ⟨l, vs, ep, keep _ _ ?_ a, b.mono x⟩
   rw [S.own k' l]; exact fun e => q (Option.some.inj (Option.some.inj e))
 ·by_cases q : k' = k
  ·subst q; rw [hn]; exact ⟨hk, ks es e⟩
  ·rw [hd k' q] at e
   refine ay fun X hX => ?_
   obtain ⟨l, kvs, a, b⟩ := S.dctS k' es e
   refine hX ?_
   rw [hn]
   refine ⟨l, kvs, a.at fun o e => keep _ o ?_ e, b.mono x⟩
   rw [S.own k' l]; exact fun e => q (Option.some.inj (Option.some.inj e))
 ·by_cases q : k' = k
  ·subst q; rw [hn]; exact ⟨hk, ke es e⟩
  ·rw [hd k' q] at e
   refine ay fun X hX => ?_
   obtain ⟨l, kvs, a, b⟩ := S.dctI k' es e
   refine hX ?_
   rw [hn]
   refine ⟨l, kvs, a.at fun o e => keep _ o ?_ e, b.mono x⟩
   rw [S.own k' l]; exact fun e => q (Option.some.inj (Option.some.inj e))
theorem Sim.ins_ne_lst (S : Sim prog w ca base μ H h) {c : Nat} {fs : aY} {xs : List MV} (a : H.ins c k = some fs) (b : H.lst k = some xs) : False := by
 obtain ⟨_, d, es, ep, e, _⟩ := S.ins c k fs a
 obtain ⟨_, vs, ep', e', _⟩ := S.lst k xs b
 rw [e] at e'; simp at e'
theorem bM {K : Type} [DecidableEq K] {knd : PySem.KeyKind prog w K} {a : Addr} {kvs : List (K × Value)} (x : h.DictOf knd a kvs) : ∃ es ep, h.get? a = some (dictOf es ep) := by
 refine ay fun X hX => ?_
 obtain ⟨o, es, ep, e, ⟨c, d, sl⟩, hd, _⟩ := x
 obtain ⟨oc, od, oda, osl⟩ := o
 simp only at c d sl hd
 subst c d sl hd
 refine hX ?_
 exact ⟨es.toList, ep, by rw [e]⟩
theorem Sim.dct_obj (S : Sim prog w ca base μ H h) {d : MD} (a : H.dct k = some d) : ∃ es ep, h.get? (μ.at_ k) = some (dictOf es ep) := by
 cases d with
 | s es => obtain ⟨_, kvs, x, _⟩ := S.dctS k es a; exact bM x
 | i es => obtain ⟨_, kvs, x, _⟩ := S.dctI k es a; exact bM x
theorem Sim.ins_ne_dct (S : Sim prog w ca base μ H h) {c : Nat} {fs : aY} {d : MD} (a : H.ins c k = some fs) (b : H.dct k = some d) : False := by
 obtain ⟨_, d, es, ep, e, _⟩ := S.ins c k fs a
 obtain ⟨es', ep', e'⟩ := S.dct_obj b
 rw [e] at e'; simp at e'
theorem Sim.lst_ne_dct (S : Sim prog w ca base μ H h) {xs : List MV} {d : MD} (a : H.lst k = some xs) (b : H.dct k = some d) : False := by
 obtain ⟨_, vs, ep, e, _⟩ := S.lst k xs a
 obtain ⟨es', ep', e'⟩ := S.dct_obj b
 rw [e] at e'; simp at e'
theorem Sim.liveBut (S : Sim prog w ca base μ H h) {d : Addr} (sb : Heap.SameBut d h h') {o : Obj} (e : h'.get? d = some o) : ∀ b, μ.own b = some (some k) -> ∃ o, h'.get? b = some o := fun b q => by
 by_cases z : b = d
 ·subst z; exact ⟨o, e⟩
 ·exact (S.live b _ q).imp fun o e => (sb.2 b z).trans e
theorem Sim.keepBut (S : Sim prog w ca base μ H h) (hk : k < H.next) (sb : Heap.SameBut (μ.at_ k) h h') : ∀ b o, μ.own b ≠ some (some k) -> h.get? b = some o -> h'.get? b = some o :=
 fun b _ q e => (sb.2 b (fun z => q (z ▸ S.own k hk))).trans e
theorem Sim.extBut (S : Sim prog w ca base μ H h) (hk : k < H.next) (sb : Heap.SameBut (μ.at_ k) h h') : Ext noF μ H.next h μ H.next h' :=
 .same fun b o q _ e => S.keepBut hk sb b o (q k) e
theorem Sim.off (S : Sim prog w ca base μ H h) {d : Addr} (od : μ.np d) (bd : base.get? d = none) (ns : ∀ o, h.get? d = some o -> iG o -> μ.own d = none -> False) (keep : ∀ b o, b ≠ d -> h.get? b = some o -> h'.get? b = some o) (lv : μ.own d = some none -> ∃ o, h'.get? d = some o) :
  Sim prog w ca base μ H h' /\ Ext (· = d) μ H.next h μ H.next h' := by
 have x : Ext (· = d) μ H.next h μ H.next h' := .same fun b o _ q e => by
  by_cases z : b = d
  ·subst z; exact (ns o e (q rfl).1 (q rfl).2).elim
  ·exact keep b o z e
 have k2 : ∀ {b : Addr} {k : Nat} {o : Obj}, μ.own b = some (some k) -> h.get? b = some o -> h'.get? b = some o := fun {b k o} q e => keep b o (fun z => od k (z ▸ q)) e
 refine ⟨⟨fun b o e => keep b o (fun z => by rw [z, bd] at e; exact nos e) (S.keeps b o e), fun b k e => by
  by_cases z : b = d
  ·subst z
   cases k with
   | none => exact lv e
   | some k => exact absurd e (od k)
  ·exact (S.live b k e).imp fun o o1 => keep b o z o1, S.own, S.mine, fun c k fs e => ?_, fun k xs e => ?_, fun k es e => ?_, fun k es e => ?_⟩, x⟩
 ·obtain ⟨l, d, es, ep, a, b, c', f⟩ := S.ins c k fs e
  exact ⟨l, d, es, ep, k2 (S.own k l) a, k2 c' b, c', f.mono x⟩
 ·obtain ⟨l, vs, ep, a, b⟩ := S.lst k xs e
  exact ⟨l, vs, ep, k2 (S.own k l) a, b.mono x⟩
 ·obtain ⟨l, kvs, a, b⟩ := S.dctS k es e
  exact ⟨l, kvs, a.at fun o e => k2 (S.own k l) e, b.mono x⟩
 ·obtain ⟨l, kvs, a, b⟩ := S.dctI k es e
  exact ⟨l, kvs, a.at fun o e => k2 (S.own k l) e, b.mono x⟩
theorem Sim.base_none (S : Sim prog w ca base μ H h) {b : Addr} (hb : h.get? b = none) : base.get? b = none := by
 cases q : base.get? b with
 | none => rfl
 | some o => rw [S.keeps b o q] at hb; cases hb
theorem Sim.putL (S : Sim prog w ca base μ H h) {xs xs' : List MV} {vs : List Value} {ep : Nat} (a : H.lst k = some xs) (sb : Heap.SameBut (μ.at_ k) h h') (e : h'.get? (μ.at_ k) = some (gZ vs ep)) (r : ax μ H.next h xs' vs) :
  Sim prog w ca base μ (H.putL k xs') h' /\ Ext noF μ H.next h μ H.next h' := by
 obtain ⟨hk, _⟩ := S.lst k xs a
 refine S.change (H' := H.putL k xs') hk (S.keepBut hk sb) (S.liveBut sb e) rfl (fun _ _ _ => rfl) (fun k' q => if_neg q) (fun _ _ => rfl) (fun c fs q => (S.ins_ne_lst q a).elim) (fun ys q => ?_)
  (fun es q => (S.lst_ne_dct a q).elim) (fun es q => (S.lst_ne_dct a q).elim)
 rw [show (H.putL k xs').lst k = some xs' from if_pos rfl] at q
 obtain rfl := Option.some.inj q
 exact ⟨vs, ep, e, r.mono (S.extBut hk sb)⟩
theorem Sim.putS (S : Sim prog w ca base μ H h) {d : MD} {es : List (Str × MV)} {kvs : List (Str × Value)} (a : H.dct k = some d) (sb : Heap.SameBut (μ.at_ k) h h') (e : h'.DictOf (PySem.strKind prog w) (μ.at_ k) kvs) (r : eF μ H.next h es kvs) :
  Sim prog w ca base μ (H.putD k (.s es)) h' /\ Ext noF μ H.next h μ H.next h' := by
 have hk : k < H.next := by cases d with
  | s es => exact (S.dctS k es a).1
  | i es => exact (S.dctI k es a).1
 refine S.change (H' := H.putD k (.s es)) hk (S.keepBut hk sb) (by obtain ⟨_, _, z⟩ := bM e; exact S.liveBut sb z) rfl (fun _ _ _ => rfl) (fun _ _ => rfl) (fun k' q => if_neg q) (fun c fs q => (S.ins_ne_dct q a).elim) (fun ys q => (S.lst_ne_dct q a).elim) (fun ys q => ?_) (fun ys q => ?_)
 ·rw [show (H.putD k (.s es)).dct k = some (.s es) from if_pos rfl] at q
  cases q
  exact ⟨kvs, e, r.mono (S.extBut hk sb)⟩
 ·rw [show (H.putD k (.s es)).dct k = some (.s es) from if_pos rfl] at q
  cases q
theorem Sim.putE (S : Sim prog w ca base μ H h) {d : MD} {es : List (Int × MV)} {kvs : List (Int × Value)} (a : H.dct k = some d) (sb : Heap.SameBut (μ.at_ k) h h') (e : h'.DictOf (PySem.intKind prog w) (μ.at_ k) kvs) (r : eF μ H.next h es kvs) :
  Sim prog w ca base μ (H.putD k (.i es)) h' /\ Ext noF μ H.next h μ H.next h' := by
 have hk : k < H.next := by cases d with
  | s es => exact (S.dctS k es a).1
  | i es => exact (S.dctI k es a).1
 refine S.change (H' := H.putD k (.i es)) hk (S.keepBut hk sb) (by obtain ⟨_, _, z⟩ := bM e; exact S.liveBut sb z) rfl (fun _ _ _ => rfl) (fun _ _ => rfl) (fun k' q => if_neg q) (fun c fs q => (S.ins_ne_dct q a).elim) (fun ys q => (S.lst_ne_dct q a).elim) (fun ys q => ?_) (fun ys q => ?_)
 ·rw [show (H.putD k (.i es)).dct k = some (.i es) from if_pos rfl] at q
  cases q
 ·rw [show (H.putD k (.i es)).dct k = some (.i es) from if_pos rfl] at q
  cases q
  exact ⟨kvs, e, r.mono (S.extBut hk sb)⟩
theorem Sim.putI (S : Sim prog w ca base μ H h) {c : Nat} {fs fs' : aY} {d : Addr} {es : List DictEntry} {ep : Nat} (a : H.ins c k = some fs) (o : h.get? (μ.at_ k) = some (instObj (ca c) d)) (od : μ.own d = some (some k)) (inj : ∀ c', ca c' = ca c -> c' = c)
  (sb : Heap.SameBut d h h') (ne : d ≠ μ.at_ k) (e : h'.get? d = some (dictOf es ep)) (r : gu μ H.next h fs' es) :
  Sim prog w ca base μ (H.putI c k fs') h' /\ Ext noF μ H.next h μ H.next h' := by
 obtain ⟨hk, _⟩ := S.ins c k fs a
 have keep : ∀ b o, μ.own b ≠ some (some k) -> h.get? b = some o -> h'.get? b = some o := fun b _ q e => (sb.2 b (fun z => q (z ▸ od))).trans e
 have x : Ext noF μ H.next h μ H.next h' := .same fun b o q _ e => keep b o (q k) e
 refine S.change (H' := H.putI c k fs') hk keep (S.liveBut sb e) rfl (fun c' k' q => if_neg fun z => q z.2) (fun _ _ => rfl) (fun _ _ => rfl) (fun c' gs q => ?_) (fun ys q => (S.ins_ne_lst a q).elim)
  (fun es q => (S.ins_ne_dct a q).elim) (fun es q => (S.ins_ne_dct a q).elim)
 by_cases hc : c' = c
 ·subst hc
  rw [show (H.putI c' k fs').ins c' k = some fs' from if_pos ⟨rfl, rfl⟩] at q
  obtain rfl := Option.some.inj q
  exact ⟨d, es, ep, (sb.2 _ (Ne.symm ne)).trans o, e, od, r.mono x⟩
 ·rw [show (H.putI c k fs').ins c' k = H.ins c' k from if_neg fun z => hc z.1] at q
  refine ay fun X hX => ?_
  obtain ⟨_, d', _, _, o', _⟩ := S.ins c' k gs q
  rw [o] at o'
  refine hX ?_
  simp at o'
  exact (hc (inj c' o'.1.symm)).elim
theorem Sim.ne_dead (S : Sim prog w ca base μ H h) {b D : Addr} {n : Option Nat} (hD : h.get? D = none) (e : μ.own b = some n) : b ≠ D := fun z => by
 rw [z, S.dead hD] at e; exact nos e
noncomputable def Mp.add (μ : Mp) (k : Nat) (D d : Addr) : Mp := ⟨fun j => if j = k then D else μ.at_ j, fun b => if b = D \/ b = d then some (some k) else μ.own b⟩
theorem Sim.fresh (S : Sim prog w ca base μ H h) {D d : Addr} (keep : ∀ b o, h.get? b = some o -> h'.get? b = some o)
  (hD : h.get? D = none) (hD' : ∃ o, h'.get? D = some o) (hd : h.get? d = none) (hd' : ∃ o, h'.get? d = some o) (hn : H'.next = H.next + 1)
  (hi : ∀ c k', k' ≠ H.next -> H'.ins c k' = H.ins c k') (hl : ∀ k', k' ≠ H.next -> H'.lst k' = H.lst k') (hdd : ∀ k', k' ≠ H.next -> H'.dct k' = H.dct k')
  (ki : ∀ c fs, H'.ins c H.next = some fs -> ∃ es ep, h'.get? D = some (instObj (ca c) d) /\ h'.get? d = some (dictOf es ep) /\ gu (μ.add H.next D d) H'.next h' fs es)
  (kl : ∀ xs, H'.lst H.next = some xs -> ∃ vs ep, h'.get? D = some (gZ vs ep) /\ ax (μ.add H.next D d) H'.next h' xs vs)
  (ks : ∀ es, H'.dct H.next = some (.s es) -> ∃ kvs, h'.DictOf (PySem.strKind prog w) D kvs /\ eF (μ.add H.next D d) H'.next h' es kvs)
  (ke : ∀ es, H'.dct H.next = some (.i es) -> ∃ kvs, h'.DictOf (PySem.intKind prog w) D kvs /\ eF (μ.add H.next D d) H'.next h' es kvs) :
  Sim prog w ca base (μ.add H.next D d) H' h' := by
 have old : ∀ {b : Addr} {n : Option Nat}, μ.own b = some n -> b ≠ D /\ b ≠ d := fun {b n} e => ⟨S.ne_dead hD e, S.ne_dead hd e⟩
 have atk : (μ.add H.next D d).at_ H.next = D := if_pos rfl
 have ato : ∀ k, k ≠ H.next -> (μ.add H.next D d).at_ k = μ.at_ k := fun k q => if_neg q
 have owno : ∀ b n, μ.own b = some n -> (μ.add H.next D d).own b = some n := fun b n e => (if_neg (fun z => z.elim (old e).1 (old e).2)).trans e
 have nobase : ∀ b, h.get? b = none -> base.get? b = none := fun b hb => by
  cases q : base.get? b with
  | none => rfl
  | some o => rw [S.keeps b o q] at hb; cases hb
 have x : Ext noF μ H.next h (μ.add H.next D d) H'.next h' := ⟨by rw [hn]; exact Nat.le_succ _, fun k hk => ato k (Nat.ne_of_lt hk), fun b n e => owno b _ e, fun b o a _ e => ⟨(if_neg (fun z => by
  rcases z with z | z
  ·rw [z, hD] at e; exact nos e
  ·rw [z, hd] at e; exact nos e)), keep b o e⟩⟩
 refine ⟨fun b o e => keep b o (S.keeps b o e), fun b k e => ?_, fun k hk => ?_, fun b k e => ?_, fun c k' fs e => ?_, fun k' xs e => ?_, fun k' es e => ?_, fun k' es e => ?_⟩
 ·by_cases q : b = D \/ b = d
  ·rcases q with q | q
   ·subst q; exact hD'
   ·subst q; exact hd'
  ·rw [show (μ.add H.next D d).own b = μ.own b from if_neg q] at e
   exact (S.live b k e).imp fun o e => keep b o e
 ·by_cases q : k = H.next
  ·subst q; rw [atk]; exact if_pos (.inl rfl)
  ·rw [ato k q]; exact owno _ _ (S.own k (by omega))
 ·by_cases q : b = D \/ b = d
  ·rcases q with q | q
   ·subst q; exact nobase _ hD
   ·subst q; exact nobase _ hd
  ·rw [show (μ.add H.next D d).own b = μ.own b from if_neg q] at e
   exact S.mine b k e
 ·by_cases q : k' = H.next
  ·subst q
   refine ay fun X hX => ?_
   obtain ⟨es, ep, a, b, f⟩ := ki c fs e
   refine hX ?_
   exact ⟨by rw [hn]; exact Nat.lt_succ_self _, d, es, ep, by rw [atk]; exact a, b, if_pos (.inr rfl), f⟩
  ·rw [hi c k' q] at e
   refine ay fun X hX => ?_
   obtain ⟨l, d', es, ep, a, b, c', f⟩ := S.ins c k' fs e
   refine hX ?_
   exact ⟨by rw [hn]; exact aK _ _ 0 0 (.a .x (.n 1)) .y (.a .x (.n 1)) (.a .y (.n 1)) rfl l, d', es, ep, by rw [ato k' q]; exact keep _ _ a, keep _ _ b, owno _ _ c', f.mono x⟩
 ·by_cases q : k' = H.next
  ·subst q
   obtain ⟨vs, ep, a, b⟩ := kl xs e
   exact ⟨by rw [hn]; exact Nat.lt_succ_self _, vs, ep, by rw [atk]; exact a, b⟩
  ·rw [hl k' q] at e
   obtain ⟨l, vs, ep, a, b⟩ := S.lst k' xs e
   exact ⟨by rw [hn]; exact aK _ _ 0 0 (.a .x (.n 1)) .y (.a .x (.n 1)) (.a .y (.n 1)) rfl l, vs, ep, by rw [ato k' q]; exact keep _ _ a, b.mono x⟩
 ·by_cases q : k' = H.next
  ·subst q
   refine ay fun X hX => ?_
   obtain ⟨vs, a, b⟩ := ks es e
   refine hX ?_
   exact ⟨by rw [hn]; exact Nat.lt_succ_self _, vs, by rw [atk]; exact a, b⟩
  ·rw [hdd k' q] at e
   refine ay fun X hX => ?_
   obtain ⟨l, vs, a, b⟩ := S.dctS k' es e
   refine hX ?_
   exact ⟨by rw [hn]; exact aK _ _ 0 0 (.a .x (.n 1)) .y (.a .x (.n 1)) (.a .y (.n 1)) rfl l, vs, by rw [ato k' q]; exact a.at fun o e => keep _ o e, b.mono x⟩
 ·by_cases q : k' = H.next
  ·subst q
   refine ay fun X hX => ?_
   obtain ⟨vs, a, b⟩ := ke es e
   refine hX ?_
   exact ⟨by rw [hn]; exact Nat.lt_succ_self _, vs, by rw [atk]; exact a, b⟩
  ·rw [hdd k' q] at e
   refine ay fun X hX => ?_
   obtain ⟨l, vs, a, b⟩ := S.dctI k' es e
   refine hX ?_
   exact ⟨by rw [hn]; exact aK _ _ 0 0 (.a .x (.n 1)) .y (.a .x (.n 1)) (.a .y (.n 1)) rfl l, vs, by rw [ato k' q]; exact a.at fun o e => keep _ o e, b.mono x⟩
theorem Sim.extFresh (S : Sim prog w ca base μ H h) {D d : Addr} {n' : Nat} (keep : ∀ b o, h.get? b = some o -> h'.get? b = some o)
  (hD : h.get? D = none) (hd : h.get? d = none) (hn : H.next <= n') : Ext noF μ H.next h (μ.add H.next D d) n' h' :=
 ⟨hn, fun k hk => if_neg (Nat.ne_of_lt hk), fun b n e => (if_neg (fun z => z.elim (S.ne_dead hD e) (S.ne_dead hd e))).trans e, fun b o a _ e => ⟨(if_neg (fun z => by
  rcases z with z | z
  ·rw [z, hD] at e; exact nos e
  ·rw [z, hd] at e; exact nos e)), keep b o e⟩⟩
theorem Sim.none_at (S : Sim prog w ca base μ H h) : (∀ c, H.ins c H.next = none) /\ H.lst H.next = none /\ H.dct H.next = none := by
 refine ⟨fun c => ?_, ?_, ?_⟩
 ·cases q : H.ins c H.next with
  | none => rfl
  | some fs => exact absurd (S.ins _ _ _ q).1 (Nat.lt_irrefl _)
 ·cases q : H.lst H.next with
  | none => rfl
  | some fs => exact absurd (S.lst _ _ q).1 (Nat.lt_irrefl _)
 ·cases q : H.dct H.next with
  | none => rfl
  | some d => cases d with
   | s es => exact absurd (S.dctS _ _ q).1 (Nat.lt_irrefl _)
   | i es => exact absurd (S.dctI _ _ q).1 (Nat.lt_irrefl _)
theorem Sim.newL (S : Sim prog w ca base μ H h) {D : Addr} {xs : List MV} {vs : List Value} {ep : Nat} (keep : ∀ b o, h.get? b = some o -> h'.get? b = some o)
  (hD : h.get? D = none) (e : h'.get? D = some (gZ vs ep)) (r : ax μ H.next h xs vs) :
  Sim prog w ca base (μ.add H.next D D) (H.putL H.next xs).up h' /\ Ext noF μ H.next h (μ.add H.next D D) (H.next + 1) h' := by
 have x := S.extFresh (n' := H.next + 1) keep hD hD (Nat.le_succ _)
 refine ⟨S.fresh (H' := (H.putL H.next xs).up) keep hD ⟨_, e⟩ hD ⟨_, e⟩ rfl (fun _ _ _ => rfl) (fun k' q => if_neg q) (fun _ _ => rfl) (fun c fs q => ?_) (fun ys q => ?_) (fun es q => ?_) (fun es q => ?_), x⟩
 ·rw [show (H.putL H.next xs).up.ins c H.next = H.ins c H.next from rfl, S.none_at.1 c] at q; exact nos q
 ·rw [show (H.putL H.next xs).up.lst H.next = some xs from if_pos rfl] at q
  obtain rfl := Option.some.inj q
  exact ⟨vs, ep, e, r.mono x⟩
 ·rw [show (H.putL H.next xs).up.dct H.next = H.dct H.next from rfl, S.none_at.2.2] at q; exact nos q
 ·rw [show (H.putL H.next xs).up.dct H.next = H.dct H.next from rfl, S.none_at.2.2] at q; exact nos q
theorem Sim.newD (S : Sim prog w ca base μ H h) {D : Addr} {es : List (Str × MV)} {kvs : List (Str × Value)} (keep : ∀ b o, h.get? b = some o -> h'.get? b = some o)
  (hD : h.get? D = none) (e : h'.DictOf (PySem.strKind prog w) D kvs) (r : eF μ H.next h es kvs) :
  Sim prog w ca base (μ.add H.next D D) (H.putD H.next (.s es)).up h' /\ Ext noF μ H.next h (μ.add H.next D D) (H.next + 1) h' := by
 have x := S.extFresh (n' := H.next + 1) keep hD hD (Nat.le_succ _)
 have hlt : ∃ o, h'.get? D = some o := by obtain ⟨_, _, e⟩ := bM e; exact ⟨_, e⟩
 refine ⟨S.fresh (H' := (H.putD H.next (.s es)).up) keep hD hlt hD hlt rfl (fun _ _ _ => rfl) (fun _ _ => rfl) (fun k' q => if_neg q) (fun c fs q => ?_) (fun ys q => ?_) (fun ys q => ?_) (fun ys q => ?_), x⟩
 ·rw [show (H.putD H.next (.s es)).up.ins c H.next = H.ins c H.next from rfl, S.none_at.1 c] at q; exact nos q
 ·rw [show (H.putD H.next (.s es)).up.lst H.next = H.lst H.next from rfl, S.none_at.2.1] at q; exact nos q
 ·rw [show (H.putD H.next (.s es)).up.dct H.next = some (.s es) from if_pos rfl] at q
  cases q
  exact ⟨kvs, e, r.mono x⟩
 ·rw [show (H.putD H.next (.s es)).up.dct H.next = some (.s es) from if_pos rfl] at q
  cases q
theorem Sim.newI (S : Sim prog w ca base μ H h) {c : Nat} {D d : Addr} {ep : Nat} (keep : ∀ b o, h.get? b = some o -> h'.get? b = some o)
  (hD : h.get? D = none) (hd : h.get? d = none) (e : h'.get? D = some (instObj (ca c) d)) (e' : h'.get? d = some (dictOf [] ep)) :
  Sim prog w ca base (μ.add H.next D d) (H.putI c H.next []).up h' /\ Ext noF μ H.next h (μ.add H.next D d) (H.next + 1) h' := by
 have x := S.extFresh (n' := H.next + 1) keep hD hd (Nat.le_succ _)
 refine ⟨S.fresh (H' := (H.putI c H.next []).up) keep hD ⟨_, e⟩ hd ⟨_, e'⟩ rfl (fun c' k' q => if_neg fun z => q z.2) (fun _ _ => rfl) (fun _ _ => rfl) (fun c' fs q => ?_) (fun ys q => ?_) (fun ys q => ?_) (fun ys q => ?_), x⟩
 ·by_cases hc : c' = c
  ·subst hc
   rw [show (H.putI c' H.next []).up.ins c' H.next = some [] from if_pos ⟨rfl, rfl⟩] at q
   obtain rfl := Option.some.inj q
   exact ⟨[], ep, e, e', .nil⟩
  ·rw [show (H.putI c H.next []).up.ins c' H.next = H.ins c' H.next from if_neg fun z => hc z.1, S.none_at.1 c'] at q; exact nos q
 ·rw [show (H.putI c H.next []).up.lst H.next = H.lst H.next from rfl, S.none_at.2.1] at q; exact nos q
 ·rw [show (H.putI c H.next []).up.dct H.next = H.dct H.next from rfl, S.none_at.2.2] at q; exact nos q
 ·rw [show (H.putI c H.next []).up.dct H.next = H.dct H.next from rfl, S.none_at.2.2] at q; exact nos q
end
structure ck (okF : Nat -> Str -> Bool) (K : Frag) (ca : Nat -> Addr) (base : Heap) (mg mb : Str -> Option Value) : Prop where
 X : K.In base
 g : base.Ns mainGlobals mg
 b : base.Ns builtinsNs mb
 lim : base.NoLimit
 bi : ∀ x : Str, x ≠ "__name__" -> mb x = bootBuiltins x
 sysm : (base.get? sysModules).isSome = true
 inj : ∀ c c', ca c = ca c' -> c = c'
 fld : ∀ c n, okF c n = true -> plainGet K (ca c) n = true /\ hasDictIn K (ca c) = true /\ findIn K (.ref (ca c)) n = some none /\ findIn K (.ref (ca c)) "__setattr__" = some (some (.builtin "object.__setattr__")) /\ plainOver K (ca c) = true
section
variable {okF : Nat -> Str -> Bool} {prog : Program} {w : World} {K : Frag} {ca : Nat -> Addr} {base : Heap} {mg mb : Str -> Option Value} {μ : Mp} {H : MH} {A : Around} {E : Value -> Shared -> Prop} {s : Shared}
theorem gu.get {μ : Mp} {n : Nat} {h : Heap} {fs : aY} {es : List DictEntry} (r : gu μ n h fs es) {x : Str} {m : MV} (e : ad fs x = some m) : ∃ v, getL x es = some (some v) /\ av μ n h m v := by
 induction r with
 | nil => exact nos e
 | @cons f y v fs es hs t a r ih =>
  change (if x = f then some y else ad fs x) = some m at e
  by_cases q : x = f
  ·subst q
   rw [if_pos rfl] at e
   obtain rfl := Option.some.inj e
   refine ⟨v, ?_, a⟩
   unfold getL
   rw [List.find?_cons]
   simp [Value.isStr]
  ·rw [if_neg q] at e
   obtain ⟨v', e', r'⟩ := ih e
   refine ⟨v', ?_, r'⟩
   unfold getL at e' ⊢
   rw [List.find?_cons]
   have : (Value.str f t).isStr x = false := by simp [Value.isStr]; exact fun z => q z.symm
   simp only [this]
   rw [List.any_cons]
   have : (DictEntry.mk hs (.str f t) v).refKey = false := rfl
   simp only [this, Bool.false_or]
   exact e'
theorem gu.noRef {μ : Mp} {n : Nat} {h : Heap} {fs : aY} {es : List DictEntry} (r : gu μ n h fs es) : es.any (·.refKey) = false := by
 induction r with
 | nil => rfl
 | cons a r ih => rw [List.any_cons, ih]; rfl
theorem gu.len {μ : Mp} {n : Nat} {h : Heap} {fs : aY} {es : List DictEntry} (r : gu μ n h fs es) : fs.length = es.length := by
 induction r with
 | nil => rfl
 | cons a r ih => rw [List.length_cons, List.length_cons, ih]
theorem gu.put {μ : Mp} {n : Nat} {h : Heap} {x : Str} {m : MV} {v : Value} {hs : Int} {t : Tok} (hv : av μ n h m v) {fs : aY} {es : List DictEntry} (r : gu μ n h fs es) : gu μ n h (putS x m fs) (putL x hs (.str x t) v es) := by
 induction r with
 | nil => exact .cons hv .nil
 | @cons f y u fs es hs' t' a r ih =>
  unfold putL
  change gu μ n h (if x = f then (f, m) :: fs else (f, y) :: putS x m fs) _
  by_cases q : x = f
  ·subst q
   rw [if_pos rfl, if_pos (by simp [Value.isStr])]
   exact .cons hv r
  ·rw [if_neg q, if_neg (by simp [Value.isStr]; exact fun z => q z.symm)]
   exact .cons a ih
theorem pO (x : Str) (hs : Int) (key v : Value) : ∀ es : List DictEntry, (putL x hs key v es).length <= es.length + 1 := by
 intro es
 induction es with
 | nil => exact Nat.le_refl _
 | cons e r ih =>
  unfold putL
  split
  ·exact Nat.le_succ _
  ·rw [List.length_cons, List.length_cons]; exact Nat.succ_le_succ ih
theorem av.handed {μ : Mp} {n : Nat} {h : Heap} {m : MV} {v : Value} (x : av μ n h m v) : handedIn v = true := by cases x <;> rfl
theorem Sim.inst (S : Sim prog w ca base μ H s.heap) {c k : Nat} {fs : aY} (a : H.ins c k = some fs) : ∃ d es ep, InstAt s.heap (μ.at_ k) (instObj (ca c) d) (ca c) (some (dictOf es ep)) /\ s.heap.get? d = some (dictOf es ep) /\ s.heap.get? (μ.at_ k) = some (instObj (ca c) d) /\ μ.own d = some (some k) /\ gu μ H.next s.heap fs es := by
 obtain ⟨_, d, es, ep, e, e', o, f⟩ := S.ins c k fs a
 exact ⟨d, es, ep, ⟨e, rfl, rfl, e'⟩, e', e, o, f⟩
theorem sW (T : ck okF K ca base mg mb) (S : Sim prog w ca base μ H s.heap) {c k : Nat} {fs : aY} {n : Str} {m : MV} {ex : Bool} {Q : Value -> Shared -> Prop} (a : H.ins c k = some fs) (ok : okF c n = true) (l : ad fs n = some m)
  (h : ∀ v tk, av μ H.next s.heap m v -> Q v { s with toks := tk }) : wpAny (model prog w) A (getAttr (.ref (μ.at_ k)) n ex) Q E s := by
 obtain ⟨d, es, ep, I, _, _, _, f⟩ := S.inst a
 obtain ⟨f1, f2, f3, f4, f5⟩ := T.fld c n ok
 obtain ⟨v, e, r⟩ := f.get l
 exact get_value (T.X.keeps S.keeps) I (plainGet_of f1).1 (findObj_own f2 f3 (by rfl) e) r.handed (h v _ r)
theorem sG {x C dx : Addr} {es : List DictEntry} {ep : Nat} {n : Str} {v : Value} {Q : Unit -> Shared -> Prop} (X : K.In s.heap) (I : InstAt s.heap x (instObj C dx) C (some (dictOf es ep))) (D : s.heap.get? dx = some (dictOf es ep))
  (hs : findIn K (.ref C) "__setattr__" = some (some (.builtin "object.__setattr__"))) (hp : plainOver K C = true) (ht : takerIn K C n = some none) (hh : hasDictIn K C = true) (nr : es.any (·.refKey) = false) (hz : es.length <= 900)
  (h : ∀ h' ep' tk hsh t, Heap.SameBut dx s.heap h' -> h'.get? dx = some (dictOf (putL n hsh (.str n t) v es) ep') -> Q () { s with heap := h', toks := tk }) : wpAny (model prog w) A (setAttr (.ref x) n v) Q E s := by
 refine set_plain X I hs (osa_open (s := { s with toks := s.toks + 1 }) X I hp ht fun b => ?_)
 obtain ⟨cd, hc, hd⟩ := any_some hh
 refine wpAny_bind (wpAny_pure (wpAny_bind (wpAny_bind (wpAny_loadPart I.at_ (wpAny_bind (looks_clsIn X hc _ _ _ _ (fun _ _ e => e) ?_))))))
 rw [hd]
 refine wpAny_pure (a := some dx) (wpAny_bind (wpAny_pure (wpAny_bind ?_)))
 unfold nsSet
 refine wpAny_bind (wpAny_bind (wpAny_askSetting (wpAny_pure (wpAny_bind (wpAny_mkText (wpAny_bind (wpAny_loadPart D ?_)))))))
 dsimp only
 have c : (!es.toArray.any (·.key.isStr n) && es.toArray.any (·.refKey)) = false := by
  rw [List.any_toArray (p := fun x : DictEntry => x.refKey), nr, Bool.and_false]
 rw [aRefKeyMayBeTheName_at, c]
 have e := putName_dict n (PyData.keyHash w.params n) (.str n (s.toks + 1)) v es ep
 have D' : (s.heap.update dx (Obj.putName n (PyData.keyHash w.params n) (.str n (s.toks + 1)) v)).get? dx = some (dictOf (putL n (PyData.keyHash w.params n) (.str n (s.toks + 1)) v es) (putN n es ep)) := by
  rw [Heap.get?_update_self _ D (by rw [e]; rfl), e]
 refine wpAny_updatePart D ?_
 refine wpAny_bind (wpAny_lookBehind D' (by
  have := pO n (PyData.keyHash w.params n) (.str n (s.toks + 1)) v es
  exact pastItsLine_dict (by rw [List.size_toArray, sizeLine_eq]; exact bu _ _ 0 0 .y (.n 900) .x (.a .y (.n 1)) .x (.a (.n 16777216) (.n 1)) rfl hz this)) ?_)
 exact wpAny_pure (h _ _ _ _ _ (Heap.SameBut.update ..) D')
theorem sR (T : ck okF K ca base mg mb) (S : Sim prog w ca base μ H s.heap) {c k : Nat} {fs : aY} {n : Str} {m : MV} {v : Value} {Q : Unit -> Shared -> Prop} (a : H.ins c k = some fs) (ok : okF c n = true) (len : fs.length <= 500) (hv : av μ H.next s.heap m v)
  (h : ∀ h' tk, Sim prog w ca base μ (H.putI c k (putS n m fs)) h' -> Ext noF μ H.next s.heap μ H.next h' -> Q () { s with heap := h', toks := tk }) : wpAny (model prog w) A (setAttr (.ref (μ.at_ k)) n v) Q E s := by
 obtain ⟨d, es, ep, I, D, D0, od, f⟩ := S.inst a
 obtain ⟨f1, f2, f3, f4, f5⟩ := T.fld c n ok
 have ne : d ≠ μ.at_ k := fun z => by rw [z, D0] at D; simp at D
 refine sG (T.X.keeps S.keeps) I D f4 f5 (by unfold takerIn; rw [f3]; rfl) f2 f.noRef (by rw [<- f.len]; exact leA (by assumption) rfl) fun h' ep' tk hsh t sb e => ?_
 obtain ⟨S', x⟩ := S.putI a D0 od (fun c' q => T.inj _ _ q) sb ne e (f.put hv)
 exact h h' tk S' x
end
noncomputable def Then (prog : Program) (w : World) (ca : Nat -> Addr) (base : Heap) (μ : Mp) (H : MH) (s : Shared) (H' : MH) (m : MV) (Q : Value -> Shared -> Prop) : Prop :=
 ∀ μ' h' tk r, Sim prog w ca base μ' H' h' -> Ext noF μ H.next s.heap μ' H'.next h' -> av μ' H'.next h' m r -> Q r { s with heap := h', toks := tk }
section
variable {okF : Nat -> Str -> Bool} {prog : Program} {w : World} {K : Frag} {ca : Nat -> Addr} {base : Heap} {mg mb : Str -> Option Value} {μ : Mp} {H H' : MH} {A : Around} {E : Value -> Shared -> Prop} {s : Shared} {Q : Value -> Shared -> Prop}
theorem Then.at {m : MV} {r : Value} {tk : Nat} (h : Then prog w ca base μ H s H m Q) (S : Sim prog w ca base μ H s.heap) (v : av μ H.next s.heap m r) : Q r { s with toks := tk } := h μ s.heap tk r S Ext.refl v
theorem Then.at0 {m : MV} {r : Value} (h : Then prog w ca base μ H s H m Q) (S : Sim prog w ca base μ H s.heap) (v : av μ H.next s.heap m r) : Q r s := h μ s.heap s.toks r S Ext.refl v
theorem Then.ok {m v : MV} {H1 : MH} (h : Then prog w ca base μ H s H' m Q) (e : some (v, H1) = some (m, H')) : Then prog w ca base μ H s H1 v Q := by
 cases e; exact h
theorem Then.okT {m v : MV} {r : Value} {tk : Nat} (h : Then prog w ca base μ H s H' m Q) (e : some (v, H) = some (m, H')) (S : Sim prog w ca base μ H s.heap) (q : av μ H.next s.heap v r) : Q r { s with toks := tk } := (h.ok e).at S q
theorem dq {f : MV -> Option PyData} (ih : ∀ {m : MV} {v : Value} {d : PyData}, av μ H.next s.heap m v -> f m = some d -> ∃ as, Reads s.heap v d as) : ∀ (m : List MV) {v : List Value} {d : List PyData}, ax μ H.next s.heap m v -> bo f m = some d -> ∃ as, ReadsAll s.heap v d as := by
 intro m
 induction m with
 | nil =>
  intro v d r e
  obtain rfl := r.inil
  obtain rfl := Option.some.inj e
  exact ⟨_, .nil⟩
 | cons x xs iq =>
  intro v d r e
  obtain ⟨_, _, rfl, a, r⟩ := r.icons
  cases e1 : f x with
  | none => rw [show bo f (x :: xs) = none by unfold bo; rw [e1]] at e; exact nos e
  | some d =>
   cases e2 : bo f xs with
   | none => rw [show bo f (x :: xs) = none by unfold bo; rw [e1, e2]] at e; exact nos e
   | some ds =>
    rw [show bo f (x :: xs) = some (d :: ds) by unfold bo; rw [e1, e2]] at e
    obtain rfl := Option.some.inj e
    obtain ⟨as, q⟩ := ih a e1
    obtain ⟨bs, q'⟩ := iq r e2
    exact ⟨_, .cons q q'⟩
theorem m8 {n : Nat} {m : MV} {v : Value} {d d' : PyData} (r : yB μ H.next s.heap m v) (e : pd n H m = some d) (h : pd 0 H m = some d') : d = d' /\ ∃ as, Reads s.heap v d' as := by
 cases m with
 | none => obtain rfl := Option.some.inj h; obtain rfl := r; exact ⟨(Option.some.inj ((show pd n H .none = some .none by cases n <;> rfl).symm.trans e)).symm, _, .none⟩
 | bool b => obtain rfl := Option.some.inj h; obtain rfl := r; exact ⟨(Option.some.inj ((show pd n H (.bool b) = some (.bool b) by cases n <;> rfl).symm.trans e)).symm, _, .bool b⟩
 | int i => obtain rfl := Option.some.inj h; obtain ⟨t, rfl⟩ := r; exact ⟨(Option.some.inj ((show pd n H (.int i) = some (.int i) by cases n <;> rfl).symm.trans e)).symm, _, .int i t⟩
 | str x => obtain rfl := Option.some.inj h; obtain ⟨t, rfl⟩ := r; exact ⟨(Option.some.inj ((show pd n H (.str x) = some (.str x) by cases n <;> rfl).symm.trans e)).symm, _, .str x t⟩
 | _ => exact nos h
theorem sO {m : MV} {d : PyData} (h : pd 0 H m = none) (n : Nat) (e : pd n H m = some d) : (∃ xs, m = .tup xs) \/ (∃ xs, m = .fz xs) \/ ∃ k, m = .lst k := by
 cases m with
 | tup xs => exact .inl ⟨xs, rfl⟩
 | fz xs => exact .inr (.inl ⟨xs, rfl⟩)
 | lst k => exact .inr (.inr ⟨k, rfl⟩)
 | none => exact nos h.symm
 | bool _ => exact nos h.symm
 | int _ => exact nos h.symm
 | str _ => exact nos h.symm
 | _ => cases n <;> exact nos e
theorem eT (S : Sim prog w ca base μ H s.heap) (n : Nat) : ∀ {m : MV} {v : Value} {d : PyData}, av μ H.next s.heap m v -> pd n H m = some d -> ∃ as, Reads s.heap v d as := by
 induction n with
 | zero =>
  intro m v d r e
  exact (m8 r.view e e).2
 | succ n ih =>
  intro m v d r e
  cases h : pd 0 H m with
  | some d' =>
   obtain ⟨rfl, x⟩ := m8 r.view e h
   exact x
  | none =>
   rcases sO h _ e with ⟨xs, rfl⟩ | ⟨xs, rfl⟩ | ⟨k, rfl⟩
   ·obtain ⟨_, _, _, _, _, rfl, o, _, r⟩ := r.view
    obtain ⟨ds, e1, rfl⟩ := Option.map_eq_some_iff.mp (show (bo (pd n H) xs).map .tuple = some d from e)
    obtain ⟨as, q⟩ := dq ih xs r e1
    exact ⟨_, .tuple o rfl rfl q⟩
   ·obtain ⟨_, _, _, rfl, o, _, r⟩ := r.view
    obtain ⟨ds, e1, rfl⟩ := Option.map_eq_some_iff.mp (show (bo (pd n H) xs).map .list = some d from e)
    obtain ⟨as, q⟩ := dq ih xs r e1
    exact ⟨_, .list o rfl rfl q⟩
   ·obtain ⟨rfl, _⟩ := r.view
    have e : (match H.lst k with
     | some xs => (bo (pd n H) xs).map .list
     | none => none) = some d := e
    cases q : H.lst k with
    | none => rw [q] at e; exact nos e
    | some xs =>
    rw [q] at e
    obtain ⟨ds, e1, rfl⟩ := Option.map_eq_some_iff.mp e
    obtain ⟨_, vs, ep, o, r⟩ := S.lst k xs q
    obtain ⟨as, q⟩ := dq ih xs r e1
    exact ⟨_, .list o rfl rfl q⟩
theorem bH (S : Sim prog w ca base μ H s.heap) {m : MV} {v : Value} {xs : List MV} (r : av μ H.next s.heap m v) (e : mh H m = some xs) : ∃ a vs ep, v = .ref a /\ s.heap.get? a = some (gZ vs ep) /\ ax μ H.next s.heap xs vs := by
 have r := r.view
 cases m with
 | fz ys =>
  obtain ⟨_, _, _, rfl, o, _, rs⟩ := r
  obtain rfl := Option.some.inj e
  exact ⟨_, _, _, rfl, o, rs⟩
 | lst k =>
  obtain ⟨rfl, _⟩ := r
  obtain ⟨_, vs, ep, o, rs⟩ := S.lst k xs e
  exact ⟨_, vs, ep, rfl, o, rs⟩
 | _ => exact nos e
theorem uU (S : Sim prog w ca base μ H s.heap) (hu : A.units + 70 < cLine) {a b : MV} {va vb : Value} {r : Bool} (ra : av μ H.next s.heap a va) (rb : av μ H.next s.heap b vb) (e : eqM a b H = some (r, H')) :
  H' = H /\ (Q (.bool r) s -> wpAny (model prog w) A (compareOp .Eq va vb) Q E s) /\ (Q (.bool (!r)) s -> wpAny (model prog w) A (compareOp .NotEq va vb) Q E s) := by
 refine obC e fun da e1 e => obC e fun db e2 e => itC e fun hc e => dA hc fun c1 c2 => ?_
 obtain ⟨rfl, rfl⟩ := okI e
 obtain ⟨as, q1⟩ := eT S 6 ra e1
 obtain ⟨bs, q2⟩ := eT S 6 rb e2
 exact ⟨rfl, fun h => eq_dataH q1 q2 c1 c2 (by exact aK _ _ 0 0 (.a (.a .x (.n 70)) (.n 1)) .y (.a (.a .x (.n 64)) (.n 1)) .y rfl hu) h, fun h => ne_dataH q1 q2 c1 c2 (by exact aK _ _ 0 0 (.a (.a .x (.n 70)) (.n 1)) .y (.a (.a .x (.n 64)) (.n 1)) .y rfl hu) h⟩
theorem w8 (S : Sim prog w ca base μ H s.heap) (hu : A.units + 70 < cLine) {a b : MV} {va vb : Value} {r : Bool} (ra : av μ H.next s.heap a va) (rb : av μ H.next s.heap b vb) (e : inM a b H = some (r, H')) :
  H' = H /\ (Q (.bool r) s -> wpAny (model prog w) A (compareOp .In va vb) Q E s) /\ (Q (.bool (!r)) s -> wpAny (model prog w) A (compareOp .NotIn va vb) Q E s) := by
 refine obC e fun da e1 e => obC e fun dc e2 e => obC e fun ds e3 e => itC e fun hc e => dA hc fun c1 c2 => ?_
 obtain ⟨rfl, rfl⟩ := okI e
 obtain ⟨as, q1⟩ := eT S 6 ra e1
 obtain ⟨bs, q2⟩ := eT S 6 rb e2
 have l1 := SeqAt.canLay_of_shaped c1
 have l2 := SeqAt.canLay_of_shaped c2
 have d1 := SeqAt.depth_of_shaped c1
 have l3 : A.units + 1 + min (PyData.depthAll ds) da.depth < cLine := by
  have := Nat.min_le_right (PyData.depthAll ds) da.depth
  exact gk _ _ _ _ (.a (.a .x (.n 70)) (.n 1)) .z .w (.n 64) .y .w (.a (.a (.a .x (.n 1)) .y) (.n 1)) .z rfl hu d1 this
 cases dc with
 | list _ =>
  obtain rfl := Option.some.inj e3
  exact ⟨rfl, fun h => SeqAt.in_list_reads q2 q1 (by simpa [PyData.canLay0] using l2) l1 l3 h, fun h => SeqAt.notIn_list_reads q2 q1 (by simpa [PyData.canLay0] using l2) l1 l3 h⟩
 | tuple _ =>
  obtain rfl := Option.some.inj e3
  exact ⟨rfl, fun h => SeqAt.in_tuple_reads q2 q1 (by simpa [PyData.canLay0] using l2) l1 l3 h, fun h => SeqAt.notIn_tuple_reads q2 q1 (by simpa [PyData.canLay0] using l2) l1 l3 h⟩
 | _ => exact nos e3
end
section
variable {okF : Nat -> Str -> Bool} {prog : Program} {w : World} {K : Frag} {ca : Nat -> Addr} {base : Heap} {mg mb : Str -> Option Value} {μ : Mp} {H H' : MH} {A : Around} {E : Value -> Shared -> Prop} {s : Shared} {Q : Value -> Shared -> Prop}
theorem uP (S : Sim prog w ca base μ H s.heap) (hu : A.units + 70 < cLine) {a : MV} {va : Value} {c : Addr} {ep : Nat} {r : Bool} (ra : av μ H.next s.heap a va) (rb : s.heap.get? c = some (gZ [] ep)) (e : nt a H = some (r, H')) :
  H' = H /\ (Q (.bool r) s -> wpAny (model prog w) A (compareOp .Eq va (.ref c)) Q E s) /\ (Q (.bool (!r)) s -> wpAny (model prog w) A (compareOp .NotEq va (.ref c)) Q E s) := by
 refine obC e fun xs e1 e => itC e fun _ e => ?_
 obtain ⟨rfl, rfl⟩ := okI e
 obtain ⟨b, vs, ep', rfl, o, rs⟩ := bH S ra e1
 have hl : s.heap.IsList b vs.toArray := ⟨_, o, rfl, _, rfl⟩
 have hc : s.heap.IsList c #[] := ⟨_, rb, rfl, _, rfl⟩
 have hu : A.units + 1 <= cLine := aK _ _ 0 0 (.a (.a .x (.n 70)) (.n 1)) .y (.a .x (.n 1)) .y rfl hu
 cases rs with
 | nil => exact ⟨rfl, fun h => SeqAt.RcAt.lists (e := fun _ => true) hl hc rfl hu (fun j h1 _ => absurd h1 (Nat.not_lt_zero j)) prog w E Q h, fun h => SeqAt.RcNeAt.lists (e := fun _ => true) hl hc rfl hu (fun j h1 _ => absurd h1 (Nat.not_lt_zero j)) prog w E Q h⟩
 | cons h1 h2 => exact ⟨rfl, fun h => SeqAt.RcAt.lists_lengths hl hc (by rfl) hu prog w E Q h, fun h => SeqAt.RcNeAt.lists_lengths hl hc (by rfl) hu prog w E Q h⟩
theorem gw {α : Type} [DecidableEq α] {k i : α} {v : Value} {kvs : List (α × Value)} (q : ¬ i = k) : valueAt ((k, v) :: kvs) i = valueAt kvs i := by
 unfold valueAt
 rw [List.find?_cons, decide_eq_false (fun z => q (Eq.symm z))]
theorem cu {μ : Mp} {n : Nat} {h : Heap} {es : List (Int × MV)} {kvs : List (Int × Value)} {i : Int} (r : eF μ n h es kvs) : (aA es i = none /\ valueAt kvs i = none) \/ ∃ m v, aA es i = some m /\ valueAt kvs i = some v /\ av μ n h m v := by
 induction r with
 | nil => exact .inl ⟨rfl, rfl⟩
 | @cons k m v es kvs a r ih =>
  change ((if i = k then some m else aA es i) = none /\ _) \/ ∃ m' v', (if i = k then some m else aA es i) = some m' /\ _
  by_cases q : i = k
  ·subst q
   exact .inr ⟨m, v, if_pos rfl, by simp [valueAt], a⟩
  ·rw [if_neg q, gw q]; exact ih
theorem ct {μ : Mp} {n : Nat} {h : Heap} {es : List (Str × MV)} {kvs : List (Str × Value)} {i : Str} (r : eF μ n h es kvs) : (ad es i = none /\ valueAt kvs i = none) \/ ∃ m v, ad es i = some m /\ valueAt kvs i = some v /\ av μ n h m v := by
 induction r with
 | nil => exact .inl ⟨rfl, rfl⟩
 | @cons k m v es kvs a r ih =>
  change ((if i = k then some m else ad es i) = none /\ _) \/ ∃ m' v', (if i = k then some m else ad es i) = some m' /\ _
  by_cases q : i = k
  ·subst q
   exact .inr ⟨m, v, if_pos rfl, by simp [valueAt], a⟩
  ·rw [if_neg q, gw q]; exact ih
theorem Sim.not_modules (T : ck okF K ca base mg mb) (S : Sim prog w ca base μ H s.heap) {k : Nat} (hk : k < H.next) : (μ.at_ k == sysModules) = false := by
 rw [beq_eq_false_iff_ne]
 intro z
 have := S.mine _ _ (S.own k hk)
 rw [z] at this
 have q := T.sysm
 rw [this] at q
 cases q
theorem rx (T : ck okF K ca base mg mb) (S : Sim prog w ca base μ H s.heap) (hu : A.units + 70 < cLine) {a b : MV} {va vb : Value} {r : Bool} (ra : av μ H.next s.heap a va) (rb : av μ H.next s.heap b vb) (e : rC a b H = some (r, H')) :
  H' = H /\ ((∀ tk, Q (.bool r) { s with toks := tk }) -> wpAny (model prog w) A (compareOp .In va vb) Q E s) /\ ((∀ tk, Q (.bool (!r)) { s with toks := tk }) -> wpAny (model prog w) A (compareOp .NotIn va vb) Q E s) := by
 refine elC e (fun y q1 e => obC e fun x q2 e => obC e fun c e1 e => ?_) fun e => elC e (fun k q1 e => obC e fun i q2 e => obC e fun d e1 e => obC e fun es e2 e => ?_) fun e => ?_
 ·obtain ⟨rfl, rfl⟩ := okI e
  refine ra.strC q2 fun _ => ?_
  refine rb.strC q1 fun _ => ?_
  obtain ⟨⟨l⟩⟩ := x
  change (match l with
   | [c] => some (y.cps.toList.contains c)
   | _ => none) = _ at e1
  cases l with
  | nil => exact nos e1
  | cons c l => cases l with
   | cons _ _ => exact nos e1
   | nil =>
    obtain rfl := Option.some.inj e1
    have f := StrLaws.found_one y c
    have f : (!(Builtin.Str.occurrences y ⟨#[c]⟩ 0 y.length 1).isEmpty) = List.contains y.cps.toList c := by rw [f]; simp
    exact ⟨rfl, fun h => PyProof.Rows.in_str (by rw [f]; exact h s.toks), fun h => PySem.P.notIn_str (by rw [f]; exact h s.toks)⟩
 ·obtain ⟨rfl, rfl⟩ := okI e
  rw [tE e2] at e1
  refine ra.intC q2 fun t => ?_
  refine rb.dctC q1 fun hk => ?_
  obtain ⟨_, kvs, D, R⟩ := S.dctI k es e1
  have hm : s.heap.MapOf (PySem.intKind prog w) (μ.at_ k) (valueAt kvs) := D.mapOf
  have e3 : (aA es i).isSome = (valueAt kvs i).isSome := by
   rcases cu (i := i) R with ⟨q1, q2⟩ | ⟨m, v, q1, q2, _⟩ <;> rw [q1, q2] <;> rfl
  rw [e3]
  exact ⟨rfl, fun h => wpAny_in_of (intKind_is prog w i t) (S.not_modules T hk) hm (h _), fun h => wpAny_notIn_of (intKind_is prog w i t) (S.not_modules T hk) hm (h _)⟩
 ·obtain ⟨h1, h2, h3⟩ := w8 (Q := Q) (E := E) S hu ra rb e
  exact ⟨h1, fun h => h2 (h s.toks), fun h => h3 (h s.toks)⟩
end
theorem c0 : typeLookup (.type "list") (dunderI "add") = pure (some (.builtin "list.__iadd__")) := PySem.F.slot_list_iadd.lookup
theorem gT : seqSlot? (.type "list") (dunderI "add") = pure (some (.builtin "list.__iadd__")) := PySem.seqSlot_of c0 (by decide +kernel)
theorem jF : fillsInplaceSlot (.type "list") "add" (Operator.Add == .Add) = pure false := by
 unfold fillsInplaceSlot
 show (typeLookup (.type "list") (dunderI "add") >>= fun fi => pure (fi.isSome && !isSeqSlot fi)) = pure false
 rw [c0]
 show (pure (!isSeqSlot (some (.builtin "list.__iadd__"))) : Sem Bool) = pure false
 rw [show isSeqSlot (some (.builtin "list.__iadd__")) = true by decide +kernel]; rfl
theorem kJ {i : Int} (h : fD i = true) : -(2 ^ 62 : Int) < i /\ i < 2 ^ 62 := by
 have := of_decide_eq_true h
 omega
theorem c7 {xs : List MV} (h : aC xs = true) : xs.length <= 10000 := of_decide_eq_true h
section
variable {okF : Nat -> Str -> Bool} {prog : Program} {w : World} {K : Frag} {ca : Nat -> Addr} {base : Heap} {mg mb : Str -> Option Value} {μ : Mp} {H H' : MH} {A : Around} {E : Value -> Shared -> Prop} {s : Shared} {Q : Value -> Shared -> Prop}
theorem uR {a : MV} {va : Value} (ra : av μ H.next s.heap a va) : plainIs va .none = true /\ (va == .none) = isNone a := by
 cases ra <;> exact ⟨rfl, by first | rfl | simp [isNone]⟩
theorem uW (T : ck okF K ca base mg mb) (S : Sim prog w ca base μ H s.heap) (hu : A.units + 70 < cLine) {op : CmpOp} {a b m : MV} {va vb : Value} (ra : av μ H.next s.heap a va) (rb : av μ H.next s.heap b vb) (e : az op a b H = some (m, H'))
  (h : Then prog w ca base μ H s H' m Q) : wpAny (model prog w) A (compareOp op va vb) Q E s := by
 cases op with
 | Eq =>
  refine obC e fun r e1 e => ?_
  obtain ⟨z, q, _⟩ := uU (r := r.1) (H' := r.2) (Q := Q) (E := E) S hu ra rb e1
  rw [z] at e
  exact q ((h.ok e).at0 S (.bool _))
 | NotEq =>
  refine obC e fun r e1 e => ?_
  obtain ⟨z, _, q⟩ := uU (r := r.1) (H' := r.2) (Q := Q) (E := E) S hu ra rb e1
  rw [z] at e
  exact q ((h.ok e).at0 S (.bool _))
 | In =>
  refine obC e fun r e1 e => ?_
  obtain ⟨z, q, _⟩ := rx (r := r.1) (H' := r.2) (Q := Q) (E := E) T S hu ra rb e1
  rw [z] at e
  exact q fun tk => h.okT e S (.bool _)
 | NotIn =>
  refine obC e fun r e1 e => ?_
  obtain ⟨z, _, q⟩ := rx (r := r.1) (H' := r.2) (Q := Q) (E := E) T S hu ra rb e1
  rw [z] at e
  exact q fun tk => h.okT e S (.bool _)
 | Is =>
  refine itC e fun c e => ?_
  rw [dO c] at rb
  obtain rfl := rb.view
  obtain ⟨q1, q2⟩ := uR ra
  exact wpAny_is_plain q1 (by rw [q2]; exact (h.ok e).at0 S (.bool _))
 | IsNot =>
  refine itC e fun c e => ?_
  rw [dO c] at rb
  obtain rfl := rb.view
  obtain ⟨q1, q2⟩ := uR ra
  exact wpAny_isNot_plain q1 (by rw [q2]; exact (h.ok e).at0 S (.bool _))
 | Lt =>
  refine obC e fun i q1 e => obC e fun j q2 e => ?_
  refine ra.intC q1 fun _ => ?_
  refine rb.intC q2 fun _ => ?_
  exact lt_int ((h.ok e).at0 S (.bool _))
 | Gt =>
  refine obC e fun i q1 e => obC e fun j q2 e => ?_
  refine ra.intC q1 fun _ => ?_
  refine rb.intC q2 fun _ => ?_
  exact gt_int ((h.ok e).at0 S (.bool _))
 | _ => exact nos e
theorem kG {op : Operator} (h : ti op = true) : op = .Add := by cases op <;> first | rfl | cases h
theorem pU (S : Sim prog w ca base μ H s.heap) {op : Operator} {i j v : Int} {t1 t2 : Tok} (e : tK op i j = some v) (h : ∀ tk t, Q (.int v t) { s with toks := tk }) : wpAny (model prog w) A (binaryOp op (.int i t1) (.int j t2)) Q E s := by
 cases op with
 | Add => obtain ⟨_, e⟩ := itI e; obtain rfl := Option.some.inj e; exact add_int (h _ _)
 | Sub => obtain ⟨_, e⟩ := itI e; obtain rfl := Option.some.inj e; exact sub_int (h _ _)
 | Mult =>
  refine itC e fun hf e => ?_
  obtain rfl := Option.some.inj e
  have := kJ (Bool.and_eq_true_iff.mp hf).2
  exact mul_int (h _ _) (PySem.IntMulOk.of_right (PySem.intBits_le_64 (by omega) (by omega)))
 | Mod =>
  refine itC e fun hf e => ?_
  obtain rfl := Option.some.inj e
  have := of_decide_eq_true (Bool.and_eq_true_iff.mp hf).1
  exact mod_int' (by omega) (h _ _)
 | _ => exact nos e
theorem sS (S : Sim prog w ca base μ H s.heap) {a b m : MV} {va vb : Value} (ra : av μ H.next s.heap a va) (rb : av μ H.next s.heap b vb) (e : u7 a b H = some (m, H'))
  (h : Then prog w ca base μ H s H' m Q) : wpAny (model prog w) A (binaryOp .Add va vb) Q E s := by
 refine elC e (fun x q1 e => obC e fun y q2 e => itC e fun hf e => dA hf fun f1 f2 => ?_) fun e => obC e fun xs e1 e => obC e fun ys e2 e => itC e fun hc e => dA hc fun c1 c2 => ?_
 ·refine ra.strC q1 fun _ => ?_
  refine rb.strC q2 fun _ => ?_
  have f1 : x.cps.size <= 10000 := of_decide_eq_true f1
  have f2 : y.cps.size <= 10000 := of_decide_eq_true f2
  exact PyProof.Rows.add_str (fun t' tk => h.okT e S (.str _ _)) (by rw [sizeLine_eq]; unfold Str.length; exact bu _ _ 0 0 .x (.n 10000) .y (.n 10000) (.a .x .y) (.n 16777216) rfl f1 f2)
 have h := h.ok e
 have c1 := c7 c1
 have c2 := c7 c2
 obtain ⟨l, vs, ep, rfl, o, rs⟩ := bH S ra e1
 obtain ⟨l', vs', ep', rfl, o', rs'⟩ := bH S rb e2
 have z1 := rs.len
 have z2 := rs'.len
 refine concat_meets ⟨_, o, rfl⟩ ⟨_, o', rfl⟩ noFill_list_add seq_list_add PySem.F.slot_list_add PySem.F.entry_list_add (PySem.F.args_list_add_2 _ _) (list_addW l l' vs.toArray vs'.toArray ep ep' none none #[] #[] (by rw [sizeLine_eq]; simp; exact uu _ _ _ _ .z (.n 10000) .w (.n 10000) .x .z .y .w (.a .x .y) (.n 16777216) rfl c1 c2 (geE z1) (geE z2))) ⟨o, o', ?_⟩
 obtain ⟨S', x⟩ := S.grow (h' := s.heap.push { cls := Value.type "list", data := Data.seq (vs.toArray ++ vs'.toArray) }) (fun b o e => Heap.get?_push_of_some _ e)
 refine h μ _ _ _ S' x (.fz (vs := vs ++ vs') (ep := 0) ?_ (S.new _ (Nat.le_refl _)) ((ax.app rs' rs).mono x))
 rw [Heap.get?_push_size _ rfl]; simp
theorem uX (S : Sim prog w ca base μ H s.heap) {op : Operator} {a b m : MV} {va vb : Value} (ra : av μ H.next s.heap a va) (rb : av μ H.next s.heap b vb) (e : dz op a b H = some (m, H'))
  (h : Then prog w ca base μ H s H' m Q) : wpAny (model prog w) A (binaryOp op va vb) Q E s := by
 refine elC e (fun i q1 e => obC e fun j q2 e => obC e fun v q3 e => ?_) fun e => itC e fun c e => ?_
 ·refine ra.intC q1 fun _ => ?_
  refine rb.intC q2 fun _ => ?_
  exact pU S q3 fun tk t => h.okT e S (.int _ _)
 obtain rfl := kG c
 exact sS S ra rb e h
theorem qA (S : Sim prog w ca base μ H s.heap) {k : Nat} {xs ys : List MV} {vb : Value} (rb : av μ H.next s.heap (.fz ys) vb) (hk : k < H.next) (e1 : H.lst k = some xs) (hc : (aC xs && aC ys) = true)
  (h : Then prog w ca base μ H s (H.putL k (xs ++ ys)) (.lst k) Q) : wpAny (model prog w) A (inplaceOp .Add (.ref (μ.at_ k)) vb) Q E s := by
 refine dA hc fun c1 c2 => ?_
 have c1 := c7 c1
 have c2 := c7 c2
 obtain ⟨_, vs, ep, o, rs⟩ := S.lst k xs e1
 obtain ⟨l', vs', ep', rfl, o', rs'⟩ := bH (xs := ys) S rb rfl
 have z1 := rs.len
 have z2 := rs'.len
 have hl : s.TypeIs (.ref (μ.at_ k)) "list" := ⟨_, o, rfl⟩
 have hl' : s.TypeIs (.ref l') "list" := ⟨_, o', rfl⟩
 unfold inplaceOp
 refine wpAny_holding (wpAny_bind (wpAny_typeOf hl (wpAny_bind (wpAny_of_eq jF ?_))))
 show wpAny _ A (if false = true then _ else _) Q E s
 rw [if_neg Bool.false_ne_true]
 refine wpAny_bind (wpAny_binaryOp1_none (nm := "add") hl hl' noFill_list_add ?_)
 refine wpAny_bind (wpAny_of_eq gT ?_)
 refine wpAny_bind (wpAny_rule ?_)
 refine call_meets PySem.F.slot_list_iadd hl PySem.F.entry_list_iadd (PySem.F.args_list_iadd_2 _ _) (AutoSeq1.list___iadd___list_list_0 (μ.at_ k) vs.toArray ep l' vs'.toArray ep' (by
  simp only [Builtin.List.listTooLong, sizeLine_eq, Bool.and_eq_true, decide_eq_true_eq, not_and, Nat.not_lt]
  intro _
  simp; exact uu _ _ _ _ .z (.n 10000) .w (.n 10000) .x .z .y .w (.a .x .y) (.n 16777216) rfl c1 c2 (geE z1) (geE z2)) (by rw [sizeLine_eq]; simp; exact bu _ _ 0 0 .y (.n 10000) .x .y .x (.n 16777216) rfl c1 (geE z1)) (by rw [sizeLine_eq]; simp; exact uu _ _ _ _ .z (.n 10000) .w (.n 10000) .x .z .y .w (.a .x .y) (.n 16777217) rfl c1 c2 (geE z1) (geE z2))) ⟨o, o', ?_⟩
 have o2 : (s.heap.update (μ.at_ k) (Obj.mapSeq fun x => x ++ vs'.toArray)).get? (μ.at_ k) = some (gZ (vs ++ vs') (if (vs.toArray ++ vs'.toArray).size == vs.toArray.size then ep else ep + 1)) := by
  rw [Heap.get?_update_self _ o rfl]
  simp [Obj.mapSeq]
 obtain ⟨S', x⟩ := S.putL e1 (Heap.SameBut.update ..) o2 (ax.app rs' rs)
 exact h μ _ _ _ S' x (.lst k hk)
theorem ry (S : Sim prog w ca base μ H s.heap) {op : Operator} {a b m : MV} {va vb : Value} (ra : av μ H.next s.heap a va) (rb : av μ H.next s.heap b vb) (e : iT op a b H = some (m, H'))
  (h : Then prog w ca base μ H s H' m Q) : wpAny (model prog w) A (inplaceOp op va vb) Q E s := by
 refine itC e fun c e => ?_
 obtain rfl := kG c
 refine elC e (fun i q1 e => obC e fun j q2 e => itC e fun _ e => ?_) fun e => obC e fun k q1 e => obC e fun ys q2 e => obC e fun xs e1 e => itC e fun hc e => ?_
 ·refine ra.intC q1 fun _ => ?_
  refine rb.intC q2 fun _ => ?_
  exact iadd_int (h.okT e S (.int _ _))
 rw [kO q1] at ra
 obtain ⟨rfl, hk⟩ := ra.view
 rw [tJ q2] at rb
 exact qA S rb hk e1 hc (h.ok e)
end
theorem iH {i : Int} {n : Nat} (h : 0 <= i) (hl : i.toNat < n) : seqIndex? i n = some i.toNat := by
 have e : (if i < 0 then i + n else i) = i := if_neg (by omega)
 simp only [seqIndex?, e]
 rw [if_pos (by simp; omega)]
theorem nJ {i : Int} {n : Nat} (h : i < 0) (hl : -(n : Int) <= i) : seqIndex? i n = some (i + n).toNat := by
 have e : (if i < 0 then i + n else i) = i + n := if_pos h
 simp only [seqIndex?, e]
 rw [if_pos (by simp; omega)]
theorem nk {α : Type} {xs : List α} {i : Int} {x : α} (e : nth xs i = some x) : (0 <= i /\ xs[i.toNat]? = some x) \/ (i < 0 /\ -(xs.length : Int) <= i /\ xs[(i + xs.length).toNat]? = some x) := by
 change (if 0 <= i then _ else if _ then _ else none) = _ at e
 by_cases q : 0 <= i
 ·rw [if_pos q] at e; exact .inl ⟨q, e⟩
 ·rw [if_neg q] at e
  refine itC e fun c e => ?_
  exact .inr ⟨Int.not_le.mp q, c, e⟩
theorem mZ (vs : List Value) (j : Int) (h0 : 0 <= j) : slicePick vs.toArray none (some j) none = (vs.take j.toNat).toArray := by
 by_cases q : j.toNat <= vs.length
 ·have := slicePick_upto vs.toArray j.toNat (by simpa using q)
  rw [show ((j.toNat : Nat) : Int) = j by omega] at this
  rw [this]
 ·have e : sliceBounds none (some j) none vs.toArray.size = sliceBounds none (some ((vs.toArray.size : Nat) : Int)) none vs.toArray.size := by
   have hb : vs.toArray.size = vs.length := by rfl
   have e1 : (if j < 0 then j + (vs.length : Int) else j) = j := if_neg (by omega)
   have e2 : (if (vs.length : Int) < 0 then (vs.length : Int) + vs.length else vs.length) = vs.length := if_neg (by omega)
   simp only [sliceBounds, Option.getD_none, hb, e1, e2, show (1 : Int) > 0 by decide, if_true]
   rw [Int.min_eq_right (show (vs.length : Int) <= j by omega), Int.min_self]
  have := slicePick_upto vs.toArray vs.toArray.size (Nat.le_refl _)
  unfold slicePick at this ⊢
  rw [e, this]
  have hl : vs.length <= j.toNat := by exact aK _ _ 0 0 (.a .x (.n 1)) .y .x .y rfl (Nat.lt_of_not_le q)
  rw [List.take_of_length_le hl]
  simp
theorem m7 (vs : List Value) (j : Int) (h0 : 0 <= j) (h1 : j <= vs.length) : slicePick vs.toArray (some j) none none = (vs.drop j.toNat).toArray := by
 have := slicePick_from vs.toArray j.toNat (by simp; omega)
 rw [show ((j.toNat : Nat) : Int) = j by omega] at this
 rw [this]
section
variable {okF : Nat -> Str -> Bool} {prog : Program} {w : World} {K : Frag} {ca : Nat -> Addr} {base : Heap} {mg mb : Str -> Option Value} {μ : Mp} {H H' : MH} {A : Around} {E : Value -> Shared -> Prop} {s : Shared} {Q : Value -> Shared -> Prop}
theorem eR (S : Sim prog w ca base μ H s.heap) {m : MV} {v : Value} {xs : List MV} (r : av μ H.next s.heap m v) (e : jo H m = some xs) : ∃ a vs, v = .ref a /\ (s.heap.IsList a vs.toArray \/ IsTup s.heap a vs.toArray) /\ ax μ H.next s.heap xs vs := by
 cases r with
 | fz o _ rs => unfold jo at e; obtain rfl := Option.some.inj e; exact ⟨_, _, rfl, .inl ⟨_, o, rfl, _, rfl⟩, rs⟩
 | tup o _ rs => unfold jo at e; obtain rfl := Option.some.inj e; exact ⟨_, _, rfl, .inr ⟨_, o, rfl, _, rfl⟩, rs⟩
 | lst k hk =>
  refine ay fun X hX => ?_
  unfold jo at e
  obtain ⟨_, vs, ep, o, rs⟩ := S.lst k xs e
  refine hX ?_
  exact ⟨_, vs, rfl, .inl ⟨_, o, rfl, _, rfl⟩, rs⟩
 | _ => exact nos e
theorem pS (S : Sim prog w ca base μ H s.heap) {a b m : MV} {va vb : Value} {i : Int} (ra : av μ H.next s.heap a va) (rb : av μ H.next s.heap b vb) (q : cB b = some i) (e : tf a i H = some (m, H'))
  (h : Then prog w ca base μ H s H' m Q) : wpAny (model prog w) A (getItem va vb) Q E s := by
 refine obC e fun xs e1 e => itC e fun hc e => dA hc fun c1 _ => obC e fun v e2 e => ?_
 have c1 := kJ c1
 refine rb.intC q fun t => ?_
 obtain ⟨l, vs, rfl, ht, rs⟩ := eR S ra e1
 have z := rs.len
 rcases nk e2 with ⟨p1, p2⟩ | ⟨p1, p3, p2⟩
 ·obtain ⟨y, y1, y2⟩ := rs.get _ _ p2
  have hlt := (List.getElem?_eq_some_iff.mp y1).1
  rcases ht with ht | ht
  ·exact wpAny_getItem_list ht p1 (by omega) (by simpa using y1) ((h.ok e).at0 S y2)
  ·exact getItem_tuple ht (by omega) (by omega) (by simpa using iH p1 hlt) (by simpa using y1) ((h.ok e).at0 S y2)
 ·rw [z] at p2 p3
  obtain ⟨y, y1, y2⟩ := rs.get _ _ p2
  rcases ht with ht | ht
  ·exact wpAny_getItem_list_neg ht p1 (by simpa using p3) (by omega) (by simpa using y1) ((h.ok e).at0 S y2)
  ·exact getItem_tuple ht (by omega) (by omega) (by simpa using nJ p1 p3) (by simpa using y1) ((h.ok e).at0 S y2)
theorem sU (S : Sim prog w ca base μ H s.heap) {a b m : MV} {va vb : Value} (ra : av μ H.next s.heap a va) (rb : av μ H.next s.heap b vb) (e : aw a b H = some (m, H'))
  (h : Then prog w ca base μ H s H' m Q) : wpAny (model prog w) A (getItem va vb) Q E s := by
 refine elC e (fun i q e => elC e (fun k q1 e => obC e fun d e1 e => obC e fun es e3 e => obC e fun v e2 e => ?_) fun e => elC e (fun x q1 e => itC e fun hc e => dA hc fun c1 c2 => obC e fun c e1 e => ?_) fun e => ?_)
  fun e => obC e fun x q e => obC e fun k q1 e => obC e fun d e1 e => obC e fun es e3 e => obC e fun v e2 e => ?_
 ·rw [tE e3] at e1
  refine rb.intC q fun t => ?_
  refine ra.dctC q1 fun _ => ?_
  obtain ⟨_, kvs, D, R⟩ := S.dctI k es e1
  rcases cu (i := i) R with ⟨q1, q2⟩ | ⟨m', v', q1, q2, r⟩
  ·rw [q1] at e2; exact nos e2
  ·rw [q1] at e2; obtain rfl := Option.some.inj e2
   exact wpAny_getItem_of (intKind_is prog w i t) D.mapOf q2 (h.okT e S r)
 ·have c1 := kJ c1
  have c2 := of_decide_eq_true c2
  refine rb.intC q fun t => ?_
  refine ra.strC q1 fun _ => ?_
  refine PySem.P.getItem_str (c := c) ?_ ?_ (h.okT e S (.str _ _))
  ·rw [decide_eq_false (by omega), decide_eq_false (by omega)]; rfl
  ·have hl : i.toNat < x.cps.size := (Array.getElem?_eq_some_iff.mp e1).1
   rw [show x.length = x.cps.size from rfl, iH c2 hl]
   exact e1
 ·exact pS S ra rb q e h
 ·rw [qu e3] at e1
  refine rb.strC q fun t => ?_
  refine ra.dctC q1 fun _ => ?_
  obtain ⟨_, kvs, D, R⟩ := S.dctS k es e1
  rcases ct (i := x) R with ⟨q1, q2⟩ | ⟨m', v', q1, q2, r⟩
  ·rw [q1] at e2; exact nos e2
  ·rw [q1] at e2; obtain rfl := Option.some.inj e2
   exact wpAny_getItem_of (strKind_is prog w x t) D.mapOf q2 (h.okT e S r)
theorem uV (S : Sim prog w ca base μ H s.heap) {a lo hi m : MV} {va vl vu : Value} {sl : Addr} (ra : av μ H.next s.heap a va) (rl : av μ H.next s.heap lo vl) (ru : av μ H.next s.heap hi vu) (o : s.heap.IsSliceOf sl vl vu .none) (e : lP a lo hi H = some (m, H'))
  (h : Then prog w ca base μ H s H' m Q) : wpAny (model prog w) A (getItem va (.ref sl)) Q E s := by
 refine obC e fun xs e1 e => ?_
 obtain ⟨l, vs, ep, rfl, ol, rs⟩ := bH S ra e1
 have hl : s.heap.IsList l vs.toArray := ⟨_, ol, rfl, _, rfl⟩
 have z := rs.len
 refine elC e (fun j q e => itC e fun hc e => dA hc fun cn hc => dA hc fun c1 c3 => ?_) fun e => obC e fun j q e => itC e fun hc e => dA hc fun cn hc => dA hc fun hc c3 => dA hc fun c1 c4 => ?_
 ·have c1 := of_decide_eq_true c1
  have c3 := c7 c3
  rw [dO cn] at rl
  obtain rfl := rl.view
  revert o
  refine ru.intC q fun t o => ?_
  refine wpAny_getItem_list_slice hl o .none (.int j t) .none nofun ?_ (by rw [sizeLine_eq]; simp; exact bu _ _ 0 0 .y (.n 10000) .x .y .x (.n 16777216) rfl c3 (geE z))
  rw [mZ _ _ c1]
  obtain ⟨S', x⟩ := S.grow (h' := s.heap.push { cls := .type "list", data := .seq (vs.take j.toNat).toArray }) (fun b o e => Heap.get?_push_of_some _ e)
  exact h.ok e μ _ _ _ S' x (.fz (ep := 0) (Heap.get?_push_size _ rfl) (S.new _ (Nat.le_refl _)) ((rs.take _).mono x))
 ·have c1 := of_decide_eq_true c1
  have c4 := of_decide_eq_true c4
  have c3 := c7 c3
  rw [dO cn] at ru
  obtain rfl := ru.view
  revert o
  refine rl.intC q fun t o => ?_
  refine wpAny_getItem_list_slice hl o (.int j t) .none .none nofun ?_ (by rw [sizeLine_eq]; simp; exact bu _ _ 0 0 .y (.n 10000) .x .y .x (.n 16777216) rfl c3 (geE z))
  rw [m7 _ _ c1 (by rw [<- z]; exact c4)]
  obtain ⟨S', x⟩ := S.grow (h' := s.heap.push { cls := .type "list", data := .seq (vs.drop j.toNat).toArray }) (fun b o e => Heap.get?_push_of_some _ e)
  exact h.ok e μ _ _ _ S' x (.fz (ep := 0) (Heap.get?_push_size _ rfl) (S.new _ (Nat.le_refl _)) ((rs.drop _).mono x))
end
theorem vk {α : Type} {μ : Mp} {n : Nat} {h : Heap} {es : List (α × MV)} {kvs : List (α × Value)} (r : eF μ n h es kvs) : es.map (·.1) = kvs.map (·.1) := by
 induction r with
 | nil => rfl
 | cons _ _ ih => rw [List.map_cons, List.map_cons, ih]
theorem kL {α : Type} {μ : Mp} {n : Nat} {h : Heap} {es : List (α × MV)} {kvs : List (α × Value)} (r : eF μ n h es kvs) : es.length = kvs.length := by
 induction r with
 | nil => rfl
 | cons _ _ ih => rw [List.length_cons, List.length_cons, ih]
theorem nU {α : Type} {μ : Mp} {n : Nat} {h : Heap} {k : α} {m : MV} {v : Value} (hv : av μ n h m v) {es : List (α × MV)} {kvs : List (α × Value)} (r : eF μ n h es kvs) : eF μ n h (es ++ [(k, m)]) (kvs ++ [(k, v)]) := by
 induction r with
 | nil => exact .cons hv .nil
 | cons a _ ih => exact .cons a ih
theorem la {α : Type} [DecidableEq α] {kvs : List (α × Value)} {k : α} {v : Value} (h : valueAt kvs k = none) : stored kvs k v = kvs ++ [(k, v)] := by
 unfold stored
 rw [if_neg]
 unfold valueAt at h
 rw [Option.map_eq_none_iff, List.find?_eq_none] at h
 intro z
 obtain ⟨x, x1, x2⟩ := List.any_eq_true.mp z
 exact h x x1 x2
theorem qs {μ : Mp} {n : Nat} {h : Heap} {k : Str} {m : MV} {v : Value} (hv : av μ n h m v) {es : List (Str × MV)} {kvs : List (Str × Value)} (r : eF μ n h es kvs) (nd : (kvs.map (·.1)).Nodup) : eF μ n h (putS k m es) (stored kvs k v) := by
 induction r with
 | nil => exact .cons hv .nil
 | @cons a x y es kvs b r ih =>
  have nd' := List.nodup_cons.mp nd
  change eF μ n h (if k = a then (a, m) :: es else (a, x) :: putS k m es) _
  by_cases q : k = a
  ·subst q
   have e2 : stored ((k, y) :: kvs) k v = (k, v) :: kvs := by
    unfold stored
    rw [if_pos (by simp), List.map_cons, if_pos rfl, map_store_of_not_mem kvs k v nd'.1]
   rw [if_pos rfl, e2]
   exact .cons hv r
  ·have e2 : stored ((a, y) :: kvs) k v = (a, y) :: stored kvs k v := by
    unfold stored
    have : ¬ a = k := fun z => q z.symm
    rw [List.any_cons]
    simp only [this, decide_false, Bool.false_or, List.map_cons, if_false]
    split <;> rfl
   rw [if_neg q, e2]
   exact .cons b (ih nd'.2)
theorem iM {prog : Program} {w : World} {K : Type} [DecidableEq K] {knd : PySem.KeyKind prog w K} {h : Heap} {a : Addr} {kvs : List (K × Value)} (x : h.DictOf knd a kvs) : (kvs.map (·.1)).Nodup := by
 obtain ⟨_, _, _, _, _, _, _, _, nd⟩ := x; exact nd
section
variable {okF : Nat -> Str -> Bool} {prog : Program} {w : World} {K : Frag} {ca : Nat -> Addr} {base : Heap} {mg mb : Str -> Option Value} {μ : Mp} {H H' : MH} {A : Around} {E : Value -> Shared -> Prop} {s : Shared} {Q : Value -> Shared -> Prop}
theorem lE (S : Sim prog w ca base μ H s.heap) {a b c : MV} {va vb vc : Value} {Q : Unit -> Shared -> Prop} (ra : av μ H.next s.heap a va) (rb : av μ H.next s.heap b vb) (rc : av μ H.next s.heap c vc) (e : be a b c H = some ((), H'))
  (h : ∀ h' tk, Sim prog w ca base μ H' h' -> Ext noF μ H.next s.heap μ H'.next h' -> Q () { s with heap := h', toks := tk }) : wpAny (model prog w) A (setItem va vb vc) Q E s := by
 refine elC e (fun x q e => obC e fun k q1 e => obC e fun d e1 e => obC e fun es e3 e => itC e fun hc e => ?_) fun e => obC e fun j q e => obC e fun k q1 e => obC e fun xs e1 e => itC e fun hc e => dA hc fun hc c3 => dA hc fun c1 c2 => ?_
 ·have hc : es.length <= 10000 := of_decide_eq_true hc
  rw [qu e3] at e1
  cases e
  refine ra.dctC q1 fun hk => ?_
  refine rb.strC q fun t => ?_
  obtain ⟨_, kvs, D, R⟩ := S.dctS k es e1
  have z := kL R
  refine PySem.wpAny_setItem_pairs (strKind_is prog w x t) D (fun h' D' sb => ?_) (by rw [sizeLine_eq]; exact bu _ _ 0 0 .y (.n 10000) .x .y .x (.n 16777216) rfl hc (geE z))
  obtain ⟨S', x⟩ := S.putS e1 sb D' (qs rc R (iM D))
  exact h h' _ S' x
 ·have c1 := of_decide_eq_true c1
  have c2 := of_decide_eq_true c2
  have c3 := kJ c3
  cases e
  refine ra.lstC q1 fun hk => ?_
  refine rb.intC q fun t => ?_
  obtain ⟨_, vs, ep, o, rs⟩ := S.lst k xs e1
  have z := rs.len
  refine ki_setAt (items := vs.toArray) (n := ep) o c1 (by omega) (by simp; omega) ?_
  have o2 : (s.heap.update (μ.at_ k) (Obj.mapSeq (·.setIfInBounds j.toNat vc))).get? (μ.at_ k) = some (gZ (vs.set j.toNat vc) ep) := by
   rw [Heap.get?_update_self _ o rfl]
   simp [Obj.mapSeq]
  obtain ⟨S', x⟩ := S.putL e1 (Heap.SameBut.update ..) o2 (rs.set rc j.toNat)
  exact h _ s.toks S' x
theorem ni (S : Sim prog w ca base μ H s.heap) {a b m : MV} {va vb : Value} (ra : av μ H.next s.heap a va) (rb : av μ H.next s.heap b vb) (e : jM a b H = some (m, H'))
  (h : Then prog w ca base μ H s H' m Q) : wpAny (model prog w) A (call (.builtin "list.append") [va, vb]) Q E s := by
 refine obC e fun k q1 e => obC e fun xs e1 e => itC e fun hc e => ?_
 have hc := c7 hc
 refine ra.lstC q1 fun hk => ?_
 obtain ⟨_, vs, ep, o, rs⟩ := S.lst k xs e1
 have z := rs.len
 refine wpAny_list_append_plain (items := vs.toArray) ⟨ep, o⟩ (fun h' p sb => ?_) (by rw [sizeLine_eq]; simp; exact bu _ _ 0 0 .y (.n 10000) .x .y .x (.n 16777216) rfl hc (geE z))
 obtain ⟨ep', o'⟩ := p
 obtain ⟨S', x⟩ := S.putL e1 sb (vs := vs ++ [vb]) (ep := ep') (by rw [o']; simp) (ax.app (.cons rb .nil) rs)
 exact h.ok e μ h' s.toks _ S' x .none
theorem uT (T : ck okF K ca base mg mb) (S : Sim prog w ca base μ H s.heap) {a b c m : MV} {va vb vc : Value} (ra : av μ H.next s.heap a va) (rb : av μ H.next s.heap b vb) (rc : av μ H.next s.heap c vc) (e : wS a b c H = some (m, H'))
  (h : Then prog w ca base μ H s H' m Q) : wpAny (model prog w) A (call (.builtin "dict.get") [va, vb, vc]) Q E s := by
 refine obC e fun k q1 e => obC e fun x q e => obC e fun d e1 e => obC e fun es e3 e => ?_
 rw [qu e3] at e1
 refine ra.dctC q1 fun hk => ?_
 refine rb.strC q fun t => ?_
 obtain ⟨_, kvs, D, R⟩ := S.dctS k es e1
 refine call_meetsIn PySem.F.slot_dict_get D.typeIs PySem.F.entry_dict_get (PySem.F.args_dict_get_3 _ _ _) (meets_dict_get_default (PySem.strKind prog w) (k := x) (μ.at_ k) (strKind_is prog w x t) (S.not_modules T hk) vc) ⟨_, D.mapOf, ?_⟩
 refine h.okT e S ?_
 rcases ct (i := x) R with ⟨q1, q2⟩ | ⟨m', v', q1, q2, r⟩
 ·rw [q1, q2]; exact rc
 ·rw [q1, q2]; exact r
theorem fh {α : Type} [DecidableEq α] {knd : PySem.KeyKind prog w α} {k : Nat} {x : α} {vb vc : Value} {c m : MV} {es : List (α × MV)} {kvs : List (α × Value)} {l : Option MV} {H2 : MH} (T : ck okF K ca base mg mb) (S : Sim prog w ca base μ H s.heap) (rc : av μ H.next s.heap c vc) (hx : knd.is x vb = true) (hk : k < H.next)
  (D : s.heap.DictOf knd (μ.at_ k) kvs) (R : eF μ H.next s.heap es kvs) (hc : es.length <= 10000) (L : (l = none /\ valueAt kvs x = none) \/ ∃ m v, l = some m /\ valueAt kvs x = some v /\ av μ H.next s.heap m v)
  (put : ∀ {h' : Heap}, Heap.SameBut (μ.at_ k) s.heap h' -> h'.DictOf knd (μ.at_ k) (kvs ++ [(x, vc)]) -> eF μ H.next s.heap (es ++ [(x, c)]) (kvs ++ [(x, vc)]) -> Sim prog w ca base μ H2 h' /\ Ext noF μ H.next s.heap μ H2.next h')
  (e : some (l.elim (c, H2) fun v => (v, H)) = some (m, H')) (h : Then prog w ca base μ H s H' m Q) : wpAny (model prog w) A (call (.builtin "dict.setdefault") [.ref (μ.at_ k), vb, vc]) Q E s := by
 have z := kL R
 refine call_meetsIn PySem.F.slot_dict_setdefault D.typeIs PySem.F.entry_dict_setdefault (PySem.F.args_dict_setdefault_3 _ _ _) (kt_meets_setdefault knd (k := x) (μ.at_ k) hx (S.not_modules T hk) vc)
  ⟨kvs, D, by rw [sizeLine_eq]; exact bu _ _ 0 0 .y (.n 10000) .x .y .x (.n 16777216) rfl hc (geE z), fun v hv => ?_, fun hv h' D' sb => ?_⟩
 ·rcases L with ⟨_, q2⟩ | ⟨m', v', rfl, q2, r⟩
  ·exact nos (q2.symm.trans hv)
  ·obtain rfl := Option.some.inj (q2.symm.trans hv)
   exact h.okT e S r
 ·rcases L with ⟨rfl, _⟩ | ⟨m', v', _, q2, _⟩
  ·rw [la hv] at D'
   obtain ⟨S', y⟩ := put sb D' (nU rc R)
   exact h.ok e μ h' _ _ S' y (rc.mono y)
  ·exact nos (hv.symm.trans q2)
theorem sQ (T : ck okF K ca base mg mb) (S : Sim prog w ca base μ H s.heap) {a b c m : MV} {va vb vc : Value} (ra : av μ H.next s.heap a va) (rb : av μ H.next s.heap b vb) (rc : av μ H.next s.heap c vc) (e : sF a b c H = some (m, H'))
  (h : Then prog w ca base μ H s H' m Q) : wpAny (model prog w) A (call (.builtin "dict.setdefault") [va, vb, vc]) Q E s := by
 refine obC e fun k q1 e => obC e fun d e1 e => ?_
 refine ra.dctC q1 fun hk => ?_
 refine elC e (fun x q e => obC e fun es e3 e => itC e fun hc e => ?_) fun e => obC e fun i q e => ?_
 ·rw [qu e3] at e1
  refine rb.strC q fun t => ?_
  obtain ⟨_, kvs, D, R⟩ := S.dctS k es e1
  exact fh T S rc (strKind_is prog w x t) hk D R (of_decide_eq_true hc) (ct R) (S.putS e1) e h
 ·refine rb.intC q fun t => ?_
  by_cases q2 : dE d = true
  ·rw [if_pos q2] at e
   rw [vp q2] at e1
   obtain ⟨_, kvs, D, R⟩ := S.dctS k [] e1
   cases R
   have D0 : s.heap.DictOf (PySem.intKind prog w) (μ.at_ k) [] := by
    obtain ⟨o, es, ep, g1, g2, g3, g4, g5, g6⟩ := D
    have : es = #[] := by
     have := g5.length
     simpa using this
    subst this
    exact ⟨o, #[], ep, g1, g2, g3, by intro e he; simp at he, .nil, List.nodup_nil⟩
   exact fh T S rc (l := none) (intKind_is prog w i t) hk D0 .nil (Nat.zero_le _) (.inl ⟨rfl, rfl⟩) (S.putE e1) e h
  ·rw [if_neg q2] at e
   refine obC e fun es e3 e => itC e fun hc e => ?_
   rw [tE e3] at e1
   obtain ⟨_, kvs, D, R⟩ := S.dctI k es e1
   exact fh T S rc (intKind_is prog w i t) hk D R (of_decide_eq_true hc) (cu R) (S.putE e1) e h
end
theorem hM : bootBuiltins f0 = some (.builtin "len") := by decide +kernel
theorem hK : bootBuiltins fZ = some (.type "str") := by decide +kernel
theorem eX : bootBuiltins dL = some (.type "int") := by decide +kernel
theorem ei : bootBuiltins a9 = some (.type "tuple") := by decide +kernel
theorem fK : bootBuiltins bX = some (.type "dict") := by decide +kernel
theorem ej : bootBuiltins aQ = some (.type "range") := by decide +kernel
theorem bS : bootBuiltins ao = some (.builtin "isinstance") := by decide +kernel
section
variable {okF : Nat -> Str -> Bool} {prog : Program} {w : World} {K : Frag} {ca : Nat -> Addr} {base : Heap} {mg mb : Str -> Option Value} {μ : Mp} {H H' : MH} {A : Around} {E : Value -> Shared -> Prop} {s : Shared} {Q : Value -> Shared -> Prop}
theorem uQ (S : Sim prog w ca base μ H s.heap) {a m : MV} {va : Value} (ra : av μ H.next s.heap a va) (e : uv a H = some (m, H')) (h : Then prog w ca base μ H s H' m Q) : wpAny (model prog w) A (call (.builtin "len") [va]) Q E s := by
 refine obC e fun xs e1 e => itC e fun hc e => ?_
 have hc := c7 hc
 obtain ⟨l, vs, rfl, ht, rs⟩ := eR S ra e1
 have z := rs.len
 have hz : (vs.toArray.size : Int) = xs.length := congrArg Nat.cast z.symm
 rcases ht with ht | ht
 ·exact call_len_list ht (by omega) (by rw [hz]; exact h.okT e S (.int _ _))
 ·exact len_tuple ht (by omega) (by rw [hz]; exact h.okT e S (.int _ _))
theorem uN (S : Sim prog w ca base μ H s.heap) {a m : MV} {va : Value} (ra : av μ H.next s.heap a va) (e : wB a H = some (m, H')) (h : Then prog w ca base μ H s H' m Q) : wpAny (model prog w) A (call (.type "str") [va]) Q E s := by
 refine obC e fun i q e => itC e fun hc e => dA hc fun c1 c2 => ?_
 have c1 := of_decide_eq_true c1
 have c2 := of_decide_eq_true c2
 refine ra.intC q fun _ => ?_
 refine PySem.P.str_of_int ?_ (h.okT e S (.str _ _))
 have : i.natAbs.log2 <= i.natAbs := Nat.log2_le_self _
 have h2 : i.natAbs.log2 < 14 := by
  by_cases z : i.natAbs = 0
  ·rw [z]; decide
  ·exact (Nat.log2_lt z).mpr (by omega)
 exact leA (by assumption) rfl
theorem uS (S : Sim prog w ca base μ H s.heap) {a m : MV} {va : Value} (ra : av μ H.next s.heap a va) (e : wK a H = some (m, H')) (h : Then prog w ca base μ H s H' m Q) : wpAny (model prog w) A (call (.type "int") [va]) Q E s := by
 refine obC e fun i q e => ?_
 rw [oj q] at ra
 obtain rfl := ra.view
 exact call_int_bool (h.okT e S (.int _ _))
theorem pR (S : Sim prog w ca base μ H s.heap) {a m : MV} {va : Value} (ra : av μ H.next s.heap a va) (e : wA a H = some (m, H')) (h : Then prog w ca base μ H s H' m Q) : wpAny (model prog w) A (call (.type "tuple") [va]) Q E s := by
 refine obC e fun xs e1 e => itC e fun hc e => ?_
 have hc := c7 hc
 obtain ⟨l, vs, ep, rfl, o, rs⟩ := bH S ra e1
 have z := rs.len
 refine call_tuple_list (items := vs.toArray) ⟨_, o, rfl, _, rfl⟩ (fun h' keep => ?_) (by rw [sizeLine_eq]; simp; exact bu _ _ 0 0 .y (.n 10000) .x .y .x (.n 16777216) rfl hc (geE z))
 obtain ⟨S', x⟩ := S.grow (h' := h'.push { cls := .type "tuple", data := .seq vs.toArray }) (fun b o e => Heap.get?_push_of_some _ (keep b o e))
 obtain ⟨S1, _⟩ := S.grow keep
 exact h.ok e μ _ s.toks _ S' x (.tup (ep := 0) (dd := none) (sl := #[]) (Heap.get?_push_size _ rfl) (S1.new _ (Nat.le_refl _)) (rs.mono x))
theorem sX (T : ck okF K ca base mg mb) (S : Sim prog w ca base μ H s.heap) {a m : MV} {va : Value} (ra : av μ H.next s.heap a va) (e : qt a H = some (m, H')) (h : Then prog w ca base μ H s H' m Q) : wpAny (model prog w) A (call (.type "dict") [va]) Q E s := by
 refine obC e fun k q e => obC e fun d e1 e => itC e fun hc e => ?_
 rw [vp hc] at e1
 have h := h.ok e
 refine ra.dctC q fun hk => ?_
 obtain ⟨_, kvs, D, R⟩ := S.dctS k [] e1
 cases R
 refine kt_call_dict (K := Str) (S.not_modules T hk) D (by decide) fun h' D' sb => ?_
 obtain ⟨S', x⟩ := S.newD (h' := h') (es := []) (fun b o e => sb.extBut b o (Nat.ne_of_lt (Heap.lt_size e)) (Heap.get?_push_of_some _ e)) (a8 (Nat.le_refl _)) D' .nil
 have := h _ h' s.toks _ S' x (.dct H.next (Nat.lt_succ_self _))
 rw [show (μ.add H.next s.heap.objs.size s.heap.objs.size).at_ H.next = s.heap.objs.size from if_pos rfl] at this
 exact this
theorem rA {R : Type} {vs : List MV} {f : MV -> M R} {r : R × MH} (e : one vs f H = some r) : ∃ v, vs = [v] /\ f v H = some r := by
 cases vs with
 | nil => exact nos e
 | cons v vs => cases vs with
  | nil => exact ⟨v, rfl, e⟩
  | cons _ _ => exact nos e
theorem q9 {R : Type} {vs : List MV} {f : MV -> MV -> M R} {r : R × MH} (e : two vs f H = some r) : ∃ v u, vs = [v, u] /\ f v u H = some r := by
 cases vs with
 | nil => exact nos e
 | cons v vs => cases vs with
  | nil => exact nos e
  | cons u vs => cases vs with
   | nil => exact ⟨v, u, rfl, e⟩
   | cons _ _ => exact nos e
theorem ifC {R : Type} {c : Prop} [Decidable c] {a b : M R} {r : R × MH} {P : Prop} (e : (if c then a else b) H = some r) (h : c -> a H = some r -> P) (h' : ¬ c -> b H = some r -> P) : P := by
 by_cases q : c
 ·rw [if_pos q] at e; exact h q e
 ·rw [if_neg q] at e; exact h' q e
theorem pT (T : ck okF K ca base mg mb) (S : Sim prog w ca base μ H s.heap) {f : Str} {vs : List MV} {vvs : List Value} {m : MV} (r : ax μ H.next s.heap vs vvs) (e : aG f vs H = some (m, H')) (h : Then prog w ca base μ H s H' m Q) :
  ∃ fv, bootBuiltins f = some fv /\ wpAny (model prog w) A (call fv vvs) Q E s := by
 obtain ⟨v, rfl, e⟩ := rA e
 obtain ⟨_, _, rfl, a, r⟩ := r.icons
 obtain rfl := r.inil
 exact ifC e (fun q e => ⟨_, q ▸ hM, uQ S a e h⟩) fun _ e => ifC e (fun q e => ⟨_, q ▸ hK, uN S a e h⟩) fun _ e => ifC e (fun q e => ⟨_, q ▸ eX, uS S a e h⟩) fun _ e => ifC e (fun q e => ⟨_, q ▸ ei, pR S a e h⟩) fun _ e => ifC e (fun q e => ⟨_, q ▸ fK, sX T S a e h⟩) fun _ e => nos e
end
noncomputable def iB (m : Str) : String := if m = cG then "list.append" else if m = j7 then "dict.get" else "dict.setdefault"
theorem tw : j7 = ("get" : Str) := by decide +kernel
theorem lW : cG = ("append" : Str) := by decide +kernel
theorem pH : bh = ("setdefault" : Str) := by decide +kernel
theorem ve : j7 ≠ cG := by decide +kernel
theorem sE : bh ≠ cG := by decide +kernel
theorem pI : bh ≠ j7 := by decide +kernel
section
variable {okF : Nat -> Str -> Bool} {prog : Program} {w : World} {K : Frag} {ca : Nat -> Addr} {base : Heap} {mg mb : Str -> Option Value} {μ : Mp} {H H' : MH} {A : Around} {E : Value -> Shared -> Prop} {s : Shared}
theorem sV (S : Sim prog w ca base μ H s.heap) {m : Str} {o : MV} {vo : Value} (ro : av μ H.next s.heap o vo) (e : eO m o H = some ((), H')) :
  H' = H /\ ∀ {pl : Sem Bool} {Q : Value × List Value -> Shared -> Prop}, Q (.builtin (iB m), [vo]) s -> wpAny (model prog w) A (getMethod vo m pl) Q E s := by
 refine elC e (fun k q e => obC e fun xs e1 e => itC e fun c e => ?_) fun e => obC e fun k q e => obC e fun d e1 e => itC e fun c e => ?_
 ·cases e
  refine ⟨rfl, fun {pl Q} h => ?_⟩
  rw [c, show iB cG = "list.append" from if_pos rfl] at h
  refine ro.lstC q (P := fun v => Q (_, [v]) s -> wpAny (model prog w) A (getMethod v m pl) Q E s) (fun hk h => ?_) h
  obtain ⟨_, vs, ep, o, rs⟩ := S.lst k xs e1
  rw [c, lW]
  exact getMethod_list_append o rfl rfl h
 ·cases e
  obtain ⟨es, ep, od⟩ := S.dct_obj e1
  rw [kQ q] at ro
  obtain ⟨rfl, hk⟩ := ro.view
  have hT : s.TypeIs (.ref (μ.at_ k)) "dict" := ⟨_, od, rfl⟩
  have hd : ∀ a, Value.ref (μ.at_ k) = .ref a -> ∃ o, s.heap.get? a = some o /\ o.dict = none := fun a z => by cases z; exact ⟨_, od, rfl⟩
  refine ⟨rfl, fun {pl Q} h => ?_⟩
  by_cases q : m = j7
  ·rw [q, show iB j7 = "dict.get" from (if_neg ve).trans (if_pos rfl)] at h
   rw [q, tw]
   exact getMethod_builtin hT PySem.F.plainAttrs_dict PySem.F.slot_dict_get PySem.F.type_dict_get hd h
  ·rw [decide_eq_false q] at c
   have q := of_decide_eq_true c
   rw [q, show iB bh = "dict.setdefault" from (if_neg sE).trans (if_neg pI)] at h
   rw [q, pH]
   exact getMethod_builtin hT PySem.F.plainAttrs_dict PySem.F.slot_dict_setdefault PySem.F.type_dict_setdefault hd h
theorem km (T : ck okF K ca base mg mb) (S : Sim prog w ca base μ H s.heap) {m : Str} {o r : MV} {vo : Value} {vs : List MV} {vvs : List Value} {Q : Value -> Shared -> Prop} (ro : av μ H.next s.heap o vo) (rs : ax μ H.next s.heap vs vvs)
  (e : aM m o vs H = some (r, H')) (h : Then prog w ca base μ H s H' r Q) : wpAny (model prog w) A (call (.builtin (iB m)) (vo :: vvs)) Q E s := by
 refine ifC e (fun q e => ?_) fun q0 e => ifC e (fun q e => ?_) fun q1 e => ifC e (fun q e => ?_) fun _ e => nos e
 ·obtain ⟨_, rfl, e⟩ := rA e
  obtain ⟨_, _, rfl, a, rs⟩ := rs.icons
  obtain rfl := rs.inil
  rw [show iB m = "list.append" from if_pos q]
  exact ni S ro a e h
 ·obtain ⟨_, _, rfl, e⟩ := q9 e
  obtain ⟨_, _, rfl, a, rs⟩ := rs.icons
  obtain ⟨_, _, rfl, b, rs⟩ := rs.icons
  obtain rfl := rs.inil
  rw [show iB m = "dict.get" from (if_neg q0).trans (if_pos q)]
  exact uT T S ro a b e h
 ·obtain ⟨_, _, rfl, e⟩ := q9 e
  obtain ⟨_, _, rfl, a, rs⟩ := rs.icons
  obtain ⟨_, _, rfl, b, rs⟩ := rs.icons
  obtain rfl := rs.inil
  rw [show iB m = "dict.setdefault" from (if_neg q0).trans (if_neg q1)]
  exact sQ T S ro a b e h
theorem nV {I : Addr} {fp wr : List Addr} {n : Nat} {P : Nat -> Value -> Prop} {St : Nat -> Heap -> Prop} (W : Walks prog w A I fp wr n P St) (k : Nat) : ∀ (i : Nat) (s : Shared) (Q : List Value -> Shared -> Prop), i + k <= n -> St i s.heap ->
  (∀ h' tk vs, vs.length = k -> (∀ j v, vs[j]? = some v -> P (i + j) v) -> St (i + k) h' -> (∀ b o, b ∉ wr -> s.heap.get? b = some o -> h'.get? b = some o) -> Q vs { s with heap := h', toks := tk }) -> wpAny (model prog w) A (draw (.ref I) k) Q E s := by
 induction k with
 | zero => intro i s Q _ st h; exact wpAny_pure (h s.heap s.toks [] rfl (fun j v e => by simp at e) st fun _ _ _ e => e)
 | succ k ih =>
  intro i s Q hn st h
  unfold draw
  refine wpAny_bind (W.item i s _ E (by exact aK _ _ _ 0 (.a .x (.a .z (.n 1))) .y (.a .x (.n 1)) .y rfl hn) st fun v h1 tk1 p st1 keep1 => ?_)
  refine wpAny_bind (wpAny_holding (ih (i + 1) _ _ (by exact aK _ _ _ 0 (.a .x (.a .y (.n 1))) .z (.a (.a .x (.n 1)) .y) .z rfl hn) st1 fun h2 tk2 vs l p2 st2 keep2 => wpAny_pure ?_))
  refine h h2 tk2 (v :: vs) (by rw [List.length_cons, l]) (fun j x e => ?_) (by rw [show i + (k + 1) = i + 1 + k by exact Nat.le_antisymm (iE _ _ 0 0 (.a .x (.a .y (.n 1))) (.a (.a .x (.n 1)) .y) rfl) (iE _ _ 0 0 (.a (.a .x (.n 1)) .y) (.a .x (.a .y (.n 1))) rfl)]; exact st2) fun b o hb e => keep2 b o hb (keep1 b o hb e)
  cases j with
  | zero => simp at e; subst e; exact p
  | succ j =>
   simp at e
   have := p2 j x e
   rwa [show i + 1 + j = i + (j + 1) by exact Nat.le_antisymm (iE _ _ 0 0 (.a (.a .x (.n 1)) .y) (.a .x (.a .y (.n 1))) rfl) (iE _ _ 0 0 (.a .x (.a .y (.n 1))) (.a (.a .x (.n 1)) .y) rfl)] at this
theorem fo (S : Sim prog w ca base μ H s.heap) (hh : A.handled = none) {m : MV} {v : Value} {xs : List MV} {Q : List Value -> Shared -> Prop} (r : av μ H.next s.heap m v) (e : jo H m = some xs)
  (h : ∀ h' tk vs, Sim prog w ca base μ H h' -> Ext noF μ H.next s.heap μ H.next h' -> ax μ H.next h' xs vs -> Q vs { s with heap := h', toks := tk }) : wpAny (model prog w) A (unpackItems v xs.length none) Q E s := by
 obtain ⟨l, vs, rfl, ht, rs⟩ := eR S r e
 have z := rs.len
 have lt : l ≠ s.heap.objs.size := by
  rcases ht with ⟨o, ho, _⟩ | ⟨o, ho, _⟩ <;> exact Nat.ne_of_lt (Heap.lt_size ho)
 have main : ∀ (it : Obj) {fp : List Addr} {P : Nat -> Value -> Prop} {St : Nat -> Heap -> Prop}, Walks prog w A s.heap.objs.size fp [s.heap.objs.size] vs.toArray.size P St -> (∀ i v, P i v -> vs.toArray[i]? = some v) -> St 0 (s.heap.push it) ->
   wpAny (model prog w) A (do
    let items <- holding [.ref s.heap.objs.size] (draw (.ref s.heap.objs.size) xs.length)
    if items.length < xs.length then
     rule "unpack.too-few"; raiseError "ValueError" s!"not enough values to unpack (expected {xs.length}, got {items.length})"
    if (<- holding items (pyNext (.ref s.heap.objs.size))).isSome then
     rule "unpack.too-many"; raiseError "ValueError" s!"too many values to unpack (expected {xs.length})"
    return items) Q E { s with heap := s.heap.push it } := by
  intro it fp P St W hP st
  have sz : vs.toArray.size = xs.length := by simp [z]
  rw [sz] at W
  refine wpAny_bind (wpAny_holding (nV W xs.length 0 _ _ (by exact iE _ 0 0 0 (.a (.n 0) .x) .x rfl) st fun h1 tk1 ws l1 p1 st1 k1 => ?_))
  have ew : ws = vs := by
   apply List.ext_getElem?
   intro j
   by_cases q : j < ws.length
   ·obtain ⟨y, hy⟩ : ∃ y, ws[j]? = some y := ⟨_, List.getElem?_eq_getElem q⟩
    have := hP _ _ (p1 j y hy)
    rw [Nat.zero_add] at this
    rw [hy, <- this]; simp
   ·rw [List.getElem?_eq_none (by exact aK _ _ 0 0 .x .y .x .y rfl (Nat.le_of_not_lt q)), List.getElem?_eq_none (by exact gk _ _ _ _ .x .z .z .w .w .y .x .y rfl (geE z) (geE l1) (Nat.le_of_not_lt q))]
  subst ew
  rw [if_neg (by exact nlt (aK _ _ 0 0 .x .y .x .y rfl (geE l1)))]
  rw [Nat.zero_add] at st1
  refine wpAny_bind (wpAny_holding (W.done _ _ _ st1 fun h2 tk2 k2 => ?_))
  simp only [Option.isSome_none, Bool.false_eq_true, if_false]
  have keep : ∀ b o, s.heap.get? b = some o -> h2.get? b = some o := fun b o e => by
   have hb : b ∉ [s.heap.objs.size] := by simp; exact Nat.ne_of_lt (Heap.lt_size e)
   exact k2 b o hb (k1 b o hb (Heap.get?_push_of_some _ e))
  obtain ⟨S', x⟩ := S.grow keep
  exact wpAny_pure (h h2 tk2 ws S' x (rs.mono x))
 unfold unpackItems notIterableAtAll
 rcases ht with ht | ht
 ·refine wpAny_bind (wpAny_bind (wpAny_specialOf ht.typeIs PySem.F.slot_list_iter.lookup (wpAny_pure ?_)))
  simp only [Bool.false_eq_true, if_false]
  refine wpAny_bind (wpAny_holding (wpAny_pyIter_list ht ?_))
  exact main _ (Walks.list hh _ l lt vs.toArray) (fun _ _ e => e) ⟨⟨_, Heap.get?_push_size _ rfl, rfl, rfl⟩, ht.at fun o e => Heap.get?_push_of_some _ e⟩
 ·refine wpAny_bind (wpAny_bind (wpAny_specialOf ht.typeIs PySem.F.slot_tuple_iter.lookup (wpAny_pure ?_)))
  simp only [Bool.false_eq_true, if_false]
  refine wpAny_bind (wpAny_holding (PySem.wpAny_pyIter_tuple ht ?_))
  exact main _ (Walks.tuple hh _ l lt vs.toArray) (fun _ _ e => e) ⟨⟨_, Heap.get?_push_size _ rfl, rfl, rfl⟩, ht.keeps fun b o e => Heap.get?_push_of_some _ e⟩
end
theorem nX : gA = ("__debug__" : Str) := by decide +kernel
theorem hJ : bL = ("__classdict__" : Str) := by decide +kernel
structure aP (kd : Kd) (ρ : Rho) (env : Env) (μ : Mp) (n : Nat) (h : Heap) : Prop where
 fn : env.scope.kind = .function
 gl : env.globals = mainGlobals
 bl : env.builtins = builtinsNs
 kinds : ∀ x, env.kindOf x = kd x
 dbg : kd gA = none
 cld : kd bL = none
 lown : μ.own env.locals = none
 loc : ∃ m, h.Ns env.locals m /\ ∀ x v, ad ρ x = some v -> kd x = some .local -> ∃ r, m x = some r /\ av μ n h v r
 cel : ∀ x, (kd x = some .cell \/ kd x = some .free) -> ∃ c, env.cells.lookup x = some c /\ μ.own c = none /\ ∃ o, h.IsCell c o /\ ∀ v, ad ρ x = some v -> ∃ r, o = some r /\ av μ n h v r
theorem fH {h h' : Heap} {c : Addr} {v : Option Value} (x : h.IsCell c v) (k : ∀ o, h.get? c = some o -> h'.get? c = some o) : h'.IsCell c v :=
 let ⟨o, ho, hd⟩ := x; ⟨o, k o ho, hd⟩
theorem aP.monoF {F : Addr -> Prop} {kd : Kd} {ρ : Rho} {env : Env} {μ μ' : Mp} {n n' : Nat} {h h' : Heap} (V : aP kd ρ env μ n h) (x : Ext F μ n h μ' n' h') (hl : ¬ F env.locals) (hc : ∀ z c, (kd z = some .cell \/ kd z = some .free) -> env.cells.lookup z = some c -> ¬ F c) :
  aP kd ρ env μ' n' h' := by
 obtain ⟨fn, gl, bl, kinds, dbg, cld, lown, ⟨m, N, L⟩, cel⟩ := V
 obtain ⟨o, _, _, ho, _⟩ := id N
 refine ⟨fn, gl, bl, kinds, dbg, cld, (x.keep _ o (aE lown) (fun f => (hl f).elim) ho).1.trans lown, ⟨m, N.at fun o e => (x.keep _ o (aE lown) (fun f => (hl f).elim) e).2, fun y v e k => ?_⟩, fun y k => ?_⟩
 ·obtain ⟨r, a, b⟩ := L y v e k
  exact ⟨r, a, b.mono x⟩
 ·obtain ⟨c, c1, c2, o, c3, c4⟩ := cel y k
  obtain ⟨oo, ho, _⟩ := id c3
  refine ⟨c, c1, (x.keep _ oo (aE c2) (fun f => (hc y c k c1 f).elim) ho).1.trans c2, o, fH c3 fun o e => (x.keep _ o (aE c2) (fun f => (hc y c k c1 f).elim) e).2, fun v e => ?_⟩
  obtain ⟨r, a, b⟩ := c4 v e
  exact ⟨r, a, b.mono x⟩
theorem aP.mono {kd : Kd} {ρ : Rho} {env : Env} {μ μ' : Mp} {n n' : Nat} {h h' : Heap} (V : aP kd ρ env μ n h) (x : Ext noF μ n h μ' n' h') : aP kd ρ env μ' n' h' := V.monoF x (fun f => f) (fun _ _ _ _ f => f)
theorem aP.live {kd : Kd} {ρ : Rho} {env : Env} {μ : Mp} {n : Nat} {h : Heap} (V : aP kd ρ env μ n h) : h.get? env.locals ≠ none /\ ∀ z c, (kd z = some .cell \/ kd z = some .free) -> env.cells.lookup z = some c -> h.get? c ≠ none := by
 obtain ⟨m, ⟨o, _, _, ho, _⟩, _⟩ := V.loc
 refine ⟨by rw [ho]; nofun, fun z c k e => ?_⟩
 obtain ⟨c', c1, _, _, ⟨o, ho, _⟩, _⟩ := V.cel z k
 rw [e] at c1; cases c1
 rw [ho]; nofun
theorem aP.past {kd : Kd} {ρ ρ0 : Rho} {env : Env} {μ0 μ μ' : Mp} {n0 n n' : Nat} {h0 h h' : Heap} {d : Addr} (V0 : aP kd ρ0 env μ0 n0 h0) (V : aP kd ρ env μ n h) (x : Ext (· = d) μ n h μ' n' h') (hd : h0.get? d = none) : aP kd ρ env μ' n' h' :=
 V.monoF x (fun z => V0.live.1 (z ▸ hd)) (fun y c k e z => V0.live.2 y c k e (by have z : c = d := z; rw [z]; exact hd))
theorem aP.congr {kd : Kd} {ρ ρ' : Rho} {env : Env} {μ : Mp} {n : Nat} {h : Heap} (V : aP kd ρ env μ n h) (q : ∀ x, ad ρ' x = ad ρ x) : aP kd ρ' env μ n h :=
 ⟨V.fn, V.gl, V.bl, V.kinds, V.dbg, V.cld, V.lown, by
  obtain ⟨m, N, L⟩ := V.loc
  exact ⟨m, N, fun x v e => L x v (by rw [<- q x]; exact e)⟩, fun x k => by
  obtain ⟨c, c1, c2, o, c3, c4⟩ := V.cel x k
  exact ⟨c, c1, c2, o, c3, fun v e => c4 v (by rw [<- q x]; exact e)⟩⟩
structure qV (prog : Program) (w : World) (ca : Nat -> Addr) (base : Heap) (mg : Str -> Option Value) (cx : Cx) (Rm : Around -> Prop) : Prop where
 glob : ∀ x v, cx.glob x = some v -> ∃ r, mg x = some r /\ ∀ (μ : Mp) (n : Nat) (h : Heap), (∀ b o, base.get? b = some o -> h.get? b = some o) -> (∀ b k, μ.own b = some k -> base.get? b = none) -> av μ n h v r
 tab : ∀ f g, cx.tab f = some g -> ∃ fv, mg f = some fv /\ (∀ (M : Model) (h : Heap), (∀ b o, base.get? b = some o -> h.get? b = some o) -> ∃ k, (k = Keeper.frame \/ k = Keeper.machine \/ k = Keeper.boundFrame) /\ Looks M h (keeperOf fv) k) /\
  ∀ (A : Around) (E : Value -> Shared -> Prop) (s : Shared) (μ : Mp) (H H' : MH) (Q : Value -> Shared -> Prop) (vs : List MV) (vvs : List Value) (m : MV), Rm A -> Sim prog w ca base μ H s.heap -> ax μ H.next s.heap vs vvs -> g vs H = some (m, H') ->
   Then prog w ca base μ H s H' m Q -> wpAny (model prog w) A (call fv vvs) Q E s
 free : ∀ f, f ∈ [f0, fZ, dL, a9, bX, aQ, ao] -> cx.tab f = none -> mg f = none
section
variable {okF : Nat -> Str -> Bool} {prog : Program} {w : World} {K : Frag} {ca : Nat -> Addr} {base : Heap} {mg mb : Str -> Option Value} {μ : Mp} {H H' : MH} {A : Around} {E : Value -> Shared -> Prop} {s : Shared} {kd : Kd} {ρ : Rho} {env : Env}
theorem jw (V : aP kd ρ env μ H.next s.heap) {x : Str} {k : NameKind} (e : kd x = some k) : (x == ("__debug__" : Str)) = false := by
 rw [<- nX, beq_eq_false_iff_ne]
 intro z; subst z
 rw [V.dbg] at e; cases e
theorem pW (V : aP kd ρ env μ H.next s.heap) {x : Str} {k : NameKind} (e : kd x = some k) : (x == ("__classdict__" : Str)) = false := by
 rw [<- hJ, beq_eq_false_iff_ne]
 intro z; subst z
 rw [V.cld] at e; cases e
theorem nh (V : aP kd ρ env μ H.next s.heap) {x : Str} {k : NameKind} {v : MV} {Q : Value -> Shared -> Prop} (e : kd x = some k) (hk : k = .local \/ k = .cell \/ k = .free) (l : ad ρ x = some v) (h : ∀ r, av μ H.next s.heap v r -> Q r s) :
  wpAny (model prog w) A (loadName env x) Q E s := by
 rcases hk with rfl | rfl | rfl
 ·obtain ⟨m, N, L⟩ := V.loc
  obtain ⟨r, a, b⟩ := L x v l e
  exact wpAny_loadName_local V.fn ((V.kinds x).trans e) N a (h r b)
 ·obtain ⟨c, c1, c2, o, c3, c4⟩ := V.cel x (.inl e)
  obtain ⟨r, rfl, b⟩ := c4 v l
  exact wpAny_loadName_cell V.fn ((V.kinds x).trans e) c1 c3 (h r b)
 ·obtain ⟨c, c1, c2, o, c3, c4⟩ := V.cel x (.inr e)
  obtain ⟨r, rfl, b⟩ := c4 v l
  exact wpAny_loadName_free V.fn ((V.kinds x).trans e) c1 c3 (h r b) (pW V e)
theorem Sim.globals (T : ck okF K ca base mg mb) (S : Sim prog w ca base μ H s.heap) (V : aP kd ρ env μ H.next s.heap) : s.heap.Ns env.globals mg := by
 rw [V.gl]; exact T.g.at fun o e => S.keeps _ o e
theorem Sim.builtins (T : ck okF K ca base mg mb) (S : Sim prog w ca base μ H s.heap) (V : aP kd ρ env μ H.next s.heap) : s.heap.Ns env.builtins mb := by
 rw [V.bl]; exact T.b.at fun o e => S.keeps _ o e
theorem qy {f : Str} (h : f ∈ [f0, fZ, dL, a9, bX, aQ, ao]) : f ≠ "__name__" := by
 intro z; subst z
 revert h; decide +kernel
theorem fq (T : ck okF K ca base mg mb) (S : Sim prog w ca base μ H s.heap) (V : aP kd ρ env μ H.next s.heap) {x : Str} {fv : Value} {pos : Pos} {Q : Value -> Shared -> Prop} (e : kd x = some .globalImplicit) (g : mg x = some fv) (h : Q fv s) :
  wpAny (model prog w) A (eval (.Name x pos) env) Q E s :=
 Name_function_global V.fn ((V.kinds x).trans e) (loadGlobal_global (S.globals T V) g h) (jw V e)
theorem bI (T : ck okF K ca base mg mb) (S : Sim prog w ca base μ H s.heap) (V : aP kd ρ env μ H.next s.heap) {x : Str} {fv : Value} {pos : Pos} {Q : Value -> Shared -> Prop} (e : kd x = some .globalImplicit) (g : mg x = none) (hx : x ∈ [f0, fZ, dL, a9, bX, aQ, ao])
  (b : bootBuiltins x = some fv) (h : Q fv s) : wpAny (model prog w) A (eval (.Name x pos) env) Q E s :=
 Name_function_global V.fn ((V.kinds x).trans e) (loadGlobal_builtin (S.globals T V) g (S.builtins T V) ((T.bi x (qy hx)).trans b) h) (jw V e)
end
theorem cj {α β : Type} {m : M α} {f : α -> M β} {H : MH} {r : β × MH} (e : aa m f H = some r) : ∃ a H1, m H = some (a, H1) /\ f a H1 = some r := by
 change (match m H with
  | none => none
  | some (a, H') => f a H') = _ at e
 cases q : m H with
 | none => rw [q] at e; exact nos e
 | some p => rw [q] at e; exact ⟨p.1, p.2, rfl, e⟩
theorem bC {α β : Type} {m : M α} {f : α -> M β} {H : MH} {r : β × MH} {P : Prop} (e : aa m f H = some r) (h : ∀ a H1, m H = some (a, H1) -> f a H1 = some r -> P) : P := by
 obtain ⟨a, H1, q, e⟩ := cj e
 exact h a H1 q e
inductive ItR (μ : Mp) (n : Nat) (h : Heap) (it : Addr) : Src -> Nat -> Prop
 | lst (k j : Nat) : k < n -> h.IsListIter it (μ.at_ k) j -> ItR μ n h it (.lst k) j
 | fz (xs : List MV) (l : Addr) (j : Nat) : av μ n h (.fz xs) (.ref l) -> l ≠ it -> h.IsListIter it l j -> ItR μ n h it (.fix xs) j
 | tup (xs : List MV) (l : Addr) (j : Nat) : av μ n h (.tup xs) (.ref l) -> l ≠ it -> h.IsTupleIter it l j -> ItR μ n h it (.fix xs) j
 | rng (N j : Nat) : IsRangeIter h it (j : Int) ((N : Int) - j) 1 -> ItR μ n h it (.rng N) j
structure ItF (base : Heap) (μ : Mp) (h : Heap) (it : Addr) : Prop where
 own : μ.own it = none
 base : base.get? it = none
 live : ∃ o, h.get? it = some o /\ ¬ iG o
section
variable {okF : Nat -> Str -> Bool} {prog : Program} {w : World} {K : Frag} {ca : Nat -> Addr} {base : Heap} {mg mb : Str -> Option Value} {μ : Mp} {H H' : MH} {A : Around} {E : Value -> Shared -> Prop} {s : Shared} {kd : Kd} {ρ : Rho} {env : Env}
theorem ItR.keep {μ' : Mp} {n n' : Nat} {h h' : Heap} {it : Addr} {src : Src} {j : Nat} {F : Addr -> Prop} (x : ItR μ n h it src j) (y : Ext F μ n h μ' n' h') (k : ∀ o, h.get? it = some o -> h'.get? it = some o) : ItR μ' n' h' it src j := by
 cases x with
 | lst k' j' hk i => refine .lst k' _ (Nat.lt_of_lt_of_le hk y.le) ?_; rw [y.at_ k' hk]; exact let ⟨o, a, b⟩ := i; ⟨o, k o a, b⟩
 | fz xs l j' v ne i => exact .fz xs l _ (v.mono y) ne (let ⟨o, a, b⟩ := i; ⟨o, k o a, b⟩)
 | tup xs l j' v ne i => exact .tup xs l _ (v.mono y) ne (let ⟨o, a, b⟩ := i; ⟨o, k o a, b⟩)
 | rng N j' i => exact .rng N _ (k _ i)
theorem ItF.keep {μ' : Mp} {n n' : Nat} {h h' : Heap} {it : Addr} {F : Addr -> Prop} (x : ItF base μ h it) (y : Ext F μ n h μ' n' h') (nf : ¬ F it) : ItF base μ' h' it /\ ∀ o, h.get? it = some o -> h'.get? it = some o := by
 obtain ⟨a, b, o, c, d⟩ := x
 exact ⟨⟨(y.keep it o (aE a) (fun f => (nf f).elim) c).1.trans a, b, o, (y.keep it o (aE a) (fun f => (nf f).elim) c).2, d⟩, fun o e => (y.keep it o (aE a) (fun f => (nf f).elim) e).2⟩
theorem eA {h : Heap} {it : Addr} {src : Src} {j : Nat} {n : Nat} (x : ItR μ n h it src j) : ∀ o, h.get? it = some o -> ¬ iG o := by
 intro o e
 rintro ⟨xs, ep, hd⟩
 cases x with
 | lst k' j' hk i => obtain ⟨o', a, b, c⟩ := i; rw [e] at a; cases a; rw [hd] at c; cases c
 | fz xs l j' v ne i => obtain ⟨o', a, b, c⟩ := i; rw [e] at a; cases a; rw [hd] at c; cases c
 | tup xs l j' v ne i => obtain ⟨o', a, b, c⟩ := i; rw [e] at a; cases a; rw [hd] at c; cases c
 | rng N j' i =>
  have i2 : h.get? it = some _ := i
  rw [e] at i2; cases i2; cases hd
theorem uO (S : Sim prog w ca base μ H s.heap) {m : MV} {v : Value} {src : Src} {f : Nat} {Q : Value -> Shared -> Prop} (r : av μ H.next s.heap m v) (e : bw m H = some ((src, f), H'))
  (h : H' = H -> ∀ h' it, Sim prog w ca base μ H h' -> Ext noF μ H.next s.heap μ H.next h' -> s.heap.get? it = none -> ItF base μ h' it -> ItR μ H.next h' it src 0 -> Q (.ref it) { s with heap := h' }) : wpAny (model prog w) A (pyIter v) Q E s := by
 have none_ : s.heap.get? s.heap.objs.size = none := a8 (Nat.le_refl _)
 have itf : ∀ it : Obj, ¬ iG it -> it.data ≠ .freed -> ItF base μ (s.heap.push it) s.heap.objs.size := fun it q q' => ⟨S.dead none_, S.base_none none_, it, Heap.get?_push_size _ (by obtain ⟨c, d, dd, sl⟩ := it; cases dd <;> first | rfl | exact absurd rfl q'), q⟩
 refine elC e (fun k q e => obC e fun xs e1 e => itC e fun _ e => ?_) fun e => obC e fun xs q e => itC e fun _ e => ?_
 ·obtain ⟨rfl, rfl, rfl⟩ := okJ e
  refine r.lstC q fun hk => ?_
  obtain ⟨_, vs, ep, o, rs⟩ := S.lst k xs e1
  have hl : s.heap.IsList (μ.at_ k) vs.toArray := ⟨_, o, rfl, _, rfl⟩
  refine wpAny_pyIter_list hl ?_
  obtain ⟨S', x⟩ := S.grow (h' := s.heap.push { cls := .type "list_iterator", data := .fields #[.ref (μ.at_ k), .int 0 0] }) (fun b o e => Heap.get?_push_of_some _ e)
  exact h rfl _ _ S' x none_ (itf _ (by rintro ⟨_, _, z⟩; cases z) nofun) (.lst k 0 hk ⟨_, Heap.get?_push_size _ rfl, rfl, rfl⟩)
 obtain ⟨rfl, rfl, rfl⟩ := okJ e
 cases m with
 | fz ys =>
  obtain rfl := Option.some.inj q
  obtain ⟨l, vs, ep, rfl, o, rs⟩ := bH S r rfl
  have hl : s.heap.IsList l vs.toArray := ⟨_, o, rfl, _, rfl⟩
  refine wpAny_pyIter_list hl ?_
  obtain ⟨S', x⟩ := S.grow (h' := s.heap.push { cls := .type "list_iterator", data := .fields #[.ref l, .int 0 0] }) (fun b o e => Heap.get?_push_of_some _ e)
  exact h rfl _ _ S' x none_ (itf _ (by rintro ⟨_, _, z⟩; cases z) nofun) (.fz ys l 0 (r.mono x) (Nat.ne_of_lt (Heap.lt_size o)) ⟨_, Heap.get?_push_size _ rfl, rfl, rfl⟩)
 | tup ys =>
  obtain rfl := Option.some.inj q
  obtain ⟨l, vs, ep, dd, sl, rfl, o, ow, rs⟩ := r.view
  refine PySem.wpAny_pyIter_tuple (items := _) ⟨_, o, rfl, _, rfl⟩ ?_
  obtain ⟨S', x⟩ := S.grow (h' := s.heap.push { cls := .type "tuple_iterator", data := .fields #[.ref l, .int 0 0] }) (fun b o e => Heap.get?_push_of_some _ e)
  exact h rfl _ _ S' x none_ (itf _ (by rintro ⟨_, _, z⟩; cases z) nofun) (.tup ys _ 0 (r.mono x) (Nat.ne_of_lt (Heap.lt_size o)) ⟨_, Heap.get?_push_size _ rfl, rfl, rfl⟩)
 | _ => exact nos q
set_option tactic.hygienic true in
theorem ng (S : Sim prog w ca base μ H s.heap) (hh : A.handled = none) {it : Addr} {src : Src} {j : Nat} {a : Option MV} {Q : Option Value -> Shared -> Prop} (F : ItF base μ s.heap it) (I : ItR μ H.next s.heap it src j) (e : src.at_ H j = some a)
  (h : ∀ h' tk r, Sim prog w ca base μ H h' -> Ext (· = it) μ H.next s.heap μ H.next h' -> (∀ b o, b ≠ it -> s.heap.get? b = some o -> h'.get? b = some o) ->
   (a = none -> r = none) -> (∀ m, a = some m -> ∃ v, r = some v /\ av μ H.next h' m v /\ ItF base μ h' it /\ ItR μ H.next h' it src (j + 1)) -> Q r { s with heap := h', toks := tk }) : wpAny (model prog w) A (pyNext (.ref it)) Q E s := by
 have ns := eA I
 have off : ∀ {h' : Heap}, (∀ b o, b ≠ it -> s.heap.get? b = some o -> h'.get? b = some o) -> Sim prog w ca base μ H h' /\ Ext (· = it) μ H.next s.heap μ H.next h' := fun keep => S.off (aE F.own) F.base (fun o e q _ => ns o e q) keep (fun z => by rw [F.own] at z; exact nos z)
 have live : ∀ {h' : Heap}, ItR μ H.next h' it src (j + 1) -> (∃ o, h'.get? it = some o) -> ItF base μ h' it := fun i ⟨o, ho⟩ => ⟨F.own, F.base, o, ho, eA i o ho⟩
 cases I with
 | lst k _ hk i =>
  dsimp only [Src.at_] at e
  cases q : H.lst k with
  | none => rw [q] at e; exact nos e
  | some xs =>
   rw [q] at e
   obtain rfl := Option.some.inj e
   obtain ⟨_, vs, ep, o, rs⟩ := S.lst k xs q
   have hl : s.heap.IsList (μ.at_ k) vs.toArray := ⟨_, o, rfl, _, rfl⟩
   cases hx : xs[j]? with
   | none =>
    have hv : vs.toArray[j]? = none := by
     have := List.getElem?_eq_none_iff.mp hx
     simp; rw [<- rs.len]; exact aK _ _ 0 0 .x .y .x .y rfl this
    refine wpAny_pyNext_list_end hh i hl hv fun h' ex => ?_
    obtain ⟨S', x⟩ := off fun b o hb e => ex b o hb e
    exact h h' s.toks none S' x (fun b o hb e => ex b o hb e) (fun _ => rfl) (fun m z => by rw [hx] at z; exact nos z)
   | some m =>
    obtain ⟨y, y1, y2⟩ := rs.get j m hx
    refine wpAny_pyNext_list_item i hl (x := y) (by simpa using y1) fun h' i' sb => ?_
    obtain ⟨S', x⟩ := off fun b o hb e => sb.extBut b o hb e
    have I' : ItR μ H.next h' it (.lst k) (j + 1) := .lst k _ hk i'
    exact h h' s.toks (some y) S' x (fun b o hb e => sb.extBut b o hb e) (fun z => by rw [hx] at z; cases z) (fun m' z => by
     rw [hx] at z; obtain rfl := Option.some.inj z
     exact ⟨y, rfl, y2.mono x, live I' (let ⟨o, a, _⟩ := i'; ⟨o, a⟩), I'⟩)
 | fz xs l _ v ne i =>
  dsimp only [Src.at_] at e
  obtain rfl := Option.some.inj e
  obtain ⟨l', vs, ep, z, o, rs⟩ := bH S v rfl
  cases z
  have hl : s.heap.IsList l vs.toArray := ⟨_, o, rfl, _, rfl⟩
  cases hx : xs[j]? with
  | none =>
   have hv : vs.toArray[j]? = none := by
    have := List.getElem?_eq_none_iff.mp hx
    simp; rw [<- rs.len]; exact aK _ _ 0 0 .x .y .x .y rfl this
   refine wpAny_pyNext_list_end hh i hl hv fun h' ex => ?_
   obtain ⟨S', x⟩ := off fun b o hb e => ex b o hb e
   exact h h' s.toks none S' x (fun b o hb e => ex b o hb e) (fun _ => rfl) (fun m z => by rw [hx] at z; exact nos z)
  | some m =>
   obtain ⟨y, y1, y2⟩ := rs.get j m hx
   refine wpAny_pyNext_list_item i hl (x := y) (by simpa using y1) fun h' i' sb => ?_
   obtain ⟨S', x⟩ := off fun b o hb e => sb.extBut b o hb e
   have I' : ItR μ H.next h' it (.fix xs) (j + 1) := .fz xs l _ (v.mono x) ne i'
   exact h h' s.toks (some y) S' x (fun b o hb e => sb.extBut b o hb e) (fun z => by rw [hx] at z; cases z) (fun m' z => by
    rw [hx] at z; obtain rfl := Option.some.inj z
    exact ⟨y, rfl, y2.mono x, live I' (let ⟨o, a, _⟩ := i'; ⟨o, a⟩), I'⟩)
 | tup xs l _ v ne i =>
  dsimp only [Src.at_] at e
  obtain rfl := Option.some.inj e
  have v0 := v
  cases v with
  | tup o ow rs =>
  rename_i vs ep dd sl
  have hl : s.heap.IsTuple l vs.toArray := ⟨_, o, rfl, _, rfl⟩
  cases hx : xs[j]? with
  | none =>
   have hv : vs.toArray[j]? = none := by
    have := List.getElem?_eq_none_iff.mp hx
    simp; rw [<- rs.len]; exact aK _ _ 0 0 .x .y .x .y rfl this
   refine PySem.wpAny_pyNext_tuple_end hh i hl hv fun h' ex => ?_
   obtain ⟨S', x⟩ := off fun b o hb e => ex b o hb e
   exact h h' s.toks none S' x (fun b o hb e => ex b o hb e) (fun _ => rfl) (fun m z => by rw [hx] at z; exact nos z)
  | some m =>
   obtain ⟨y, y1, y2⟩ := rs.get j m hx
   refine PySem.wpAny_pyNext_tuple_item i hl (x := y) (by simpa using y1) fun h' i' sb => ?_
   obtain ⟨S', x⟩ := off fun b o hb e => sb.extBut b o hb e
   have I' : ItR μ H.next h' it (.fix xs) (j + 1) := .tup xs l _ (v0.mono x) ne i'
   exact h h' s.toks (some y) S' x (fun b o hb e => sb.extBut b o hb e) (fun z => by rw [hx] at z; cases z) (fun m' z => by
    rw [hx] at z; obtain rfl := Option.some.inj z
    exact ⟨y, rfl, y2.mono x, live I' (let ⟨o, a, _⟩ := i'; ⟨o, a⟩), I'⟩)
 | rng N _ i =>
  dsimp only [Src.at_] at e
  obtain rfl := Option.some.inj e
  by_cases q : j < N
  ·refine wpAny_pyNext_range_item i (by omega) fun h' i' sb => ?_
   obtain ⟨S', x⟩ := off fun b o hb e => sb.extBut b o hb e
   have I' : ItR μ H.next h' it (.rng N) (j + 1) := by
    refine .rng N _ ?_
    rw [show ((j + 1 : Nat) : Int) = (j : Int) + 1 by push_cast; rfl, show (N : Int) - ((j : Int) + 1) = (N : Int) - j - 1 by omega]
    exact i'
   exact h h' _ (some (.int j s.toks)) S' x (fun b o hb e => sb.extBut b o hb e) (fun z => by rw [if_pos q] at z; cases z) (fun m' z => by
    rw [if_pos q] at z; obtain rfl := Option.some.inj z
    exact ⟨_, rfl, .int _ _, live I' ⟨_, i'⟩, I'⟩)
  ·refine wpAny_pyNext_range_end hh i (by omega) fun h' ex => ?_
   obtain ⟨S', x⟩ := off fun b o hb e => ex b o hb e
   exact h h' s.toks none S' x (fun b o hb e => ex b o hb e) (fun _ => rfl) (fun m z => by rw [if_neg q] at z; exact nos z)
end
structure Rok (Rm : Around -> Prop) : Prop where
 hd : ∀ A, Rm A -> A.handled = none
 un : ∀ A, Rm A -> A.units + 70 < cLine
noncomputable def Kt (prog : Program) (w : World) (ca : Nat -> Addr) (base : Heap) {R : Type} (μ : Mp) (H : MH) (s : Shared) (k : MV -> M R) (x : R) (Hx : MH) (Q : Value -> Shared -> Prop) : Prop :=
 ∀ μ1 H1 h1 tk v r, k v H1 = some (x, Hx) -> Sim prog w ca base μ1 H1 h1 -> Ext noF μ H.next s.heap μ1 H1.next h1 -> av μ1 H1.next h1 v r -> Q r { s with heap := h1, toks := tk }
noncomputable def Ks (prog : Program) (w : World) (ca : Nat -> Addr) (base : Heap) {R : Type} (l : Nat) (μ : Mp) (H : MH) (s : Shared) (k : List MV -> M R) (x : R) (Hx : MH) (Q : List Value -> Shared -> Prop) : Prop :=
 ∀ μ1 H1 h1 tk v r, k v H1 = some (x, Hx) -> Sim prog w ca base μ1 H1 h1 -> Ext noF μ H.next s.heap μ1 H1.next h1 -> ax μ1 H1.next h1 v r -> v.length = l -> Q r { s with heap := h1, toks := tk }
noncomputable def Ki (prog : Program) (w : World) (ca : Nat -> Addr) (base : Heap) {R : Type} (μ : Mp) (H : MH) (s : Shared) (k : Src × Nat -> M R) (x : R) (Hx : MH) (Q : Value -> Shared -> Prop) : Prop :=
 ∀ μ1 H1 h1 tk it src f, k (src, f) H1 = some (x, Hx) -> Sim prog w ca base μ1 H1 h1 -> Ext noF μ H.next s.heap μ1 H1.next h1 -> s.heap.get? it = none -> ItF base μ1 h1 it -> ItR μ1 H1.next h1 it src 0 -> Q (.ref it) { s with heap := h1, toks := tk }
noncomputable def ja (prog : Program) (w : World) (ca : Nat -> Addr) (base : Heap) (cx : Cx) (Rm : Around -> Prop) (n : Nat) : Prop :=
 ∀ {R : Type} (A : Around) (E : Value -> Shared -> Prop) (s : Shared) (μ : Mp) (H Hx : MH) (kd : Kd) (ρ : Rho) (env : Env) (e : Expr) (k : MV -> M R) (x : R) (Q : Value -> Shared -> Prop), Rm A -> aP kd ρ env μ H.next s.heap -> Sim prog w ca base μ H s.heap ->
  evE cx n kd ρ e k H = some (x, Hx) -> Kt prog w ca base μ H s k x Hx Q -> wpAny (model prog w) A (eval e env) Q E s
noncomputable def yC (prog : Program) (w : World) (ca : Nat -> Addr) (base : Heap) (cx : Cx) (Rm : Around -> Prop) (n : Nat) : Prop :=
 ∀ {R : Type} (A : Around) (E : Value -> Shared -> Prop) (s : Shared) (μ : Mp) (H Hx : MH) (kd : Kd) (ρ : Rho) (env : Env) (e : Expr) (k : MV -> M R) (x : R) (Q : Value -> Shared -> Prop), Rm A -> aP kd ρ env μ H.next s.heap -> Sim prog w ca base μ H s.heap ->
  evX cx n kd ρ e k H = some (x, Hx) -> Kt prog w ca base μ H s k x Hx Q -> wpAny (model prog w) A (eval e env) Q E s
noncomputable def yD (prog : Program) (w : World) (ca : Nat -> Addr) (base : Heap) (cx : Cx) (Rm : Around -> Prop) (n : Nat) : Prop :=
 ∀ {R : Type} (A : Around) (E : Value -> Shared -> Prop) (s : Shared) (μ : Mp) (H Hx : MH) (kd : Kd) (ρ : Rho) (env : Env) (e : Expr) (k : Src × Nat -> M R) (x : R) (Q : Value -> Shared -> Prop), Rm A -> aP kd ρ env μ H.next s.heap -> Sim prog w ca base μ H s.heap ->
  evI cx n kd ρ e k H = some (x, Hx) -> Ki prog w ca base μ H s k x Hx Q -> wpAny (model prog w) A (eval e env) (fun xv s₁ => wpAny (model prog w) A (pyIter xv) Q E s₁) E s
noncomputable def xC (prog : Program) (w : World) (ca : Nat -> Addr) (base : Heap) (cx : Cx) (Rm : Around -> Prop) (n : Nat) : Prop :=
 ∀ (A : Around) (E : Value -> Shared -> Prop) (s : Shared) (μ : Mp) (H H1 : MH) (kd : Kd) (ρ : Rho) (env : Env) (e : Expr) (b : Bool) (Q : Bool -> Shared -> Prop), Rm A -> aP kd ρ env μ H.next s.heap -> Sim prog w ca base μ H s.heap ->
  evB cx n kd ρ e H = some (b, H1) -> (∀ μ1 h1 tk, Sim prog w ca base μ1 H1 h1 -> Ext noF μ H.next s.heap μ1 H1.next h1 -> Q b { s with heap := h1, toks := tk }) -> wpAny (model prog w) A (isTrue e env (eval e env)) Q E s
structure Snd (prog : Program) (w : World) (ca : Nat -> Addr) (base : Heap) (cx : Cx) (Rm : Around -> Prop) (n : Nat) : Prop where
 E : ja prog w ca base cx Rm n
 X : yC prog w ca base cx Rm n
 I : yD prog w ca base cx Rm n
 B : xC prog w ca base cx Rm n
section
variable {okF : Nat -> Str -> Bool} {prog : Program} {w : World} {K : Frag} {ca : Nat -> Addr} {base : Heap} {mg mb : Str -> Option Value} {μ μ1 : Mp} {H H1 H' Hx : MH} {h1 : Heap} {A : Around} {E : Value -> Shared -> Prop} {s : Shared} {kd : Kd} {ρ : Rho} {env : Env}
variable {cx : Cx} {Rm : Around -> Prop} {n : Nat} {R : Type} {x : R}
theorem Kt.op {k : MV -> M R} {Q : Value -> Shared -> Prop} {tk : Nat} {m : MV} {H2 : MH} (hk : Kt prog w ca base μ H s k x Hx Q) (x1 : Ext noF μ H.next s.heap μ1 H1.next h1) (e : k m H2 = some (x, Hx)) :
  Then prog w ca base μ1 H1 { s with heap := h1, toks := tk } H2 m Q := fun μ' h' tk' r S' x' v' => hk μ' H2 h' tk' m r e S' (x1.trans x') v'
theorem Kt.here {k : MV -> M R} {Q : Value -> Shared -> Prop} {tk : Nat} {m : MV} {r : Value} (hk : Kt prog w ca base μ H s k x Hx Q) (S : Sim prog w ca base μ H s.heap) (e : k m H = some (x, Hx)) (v : av μ H.next s.heap m r) : Q r { s with toks := tk } :=
 hk μ H s.heap tk m r e S Ext.refl v
theorem Ext.dead {n' : Nat} {h : Heap} (y : Ext noF μ n h μ1 n' h1) (S : Sim prog w ca base μ1 H1 h1) {b : Addr} (e : h1.get? b = none) : h.get? b = none := by
 cases q : h.get? b with
 | none => rfl
 | some o =>
  cases z : μ.own b with
  | none => rw [(y.keep b o (aE z) (fun f => f.elim) q).2] at e; cases e
  | some k =>
   cases k with
   | none => rw [(y.keep b o (gD z) (fun f => f.elim) q).2] at e; cases e
   | some k =>
    obtain ⟨o', e'⟩ := S.live b _ (y.own b k z)
    rw [e] at e'; cases e'
theorem jH {kd : Kd} {ρ : Rho} {e : Expr} {p : Pos} {k : MV -> M R} : evE cx n kd ρ (.Starred e p) k H = none := by
 cases n <;> rfl
theorem bJ {a : Expr} {k : MV -> M R} {r : R × MH} (e : evE cx n kd ρ a k H = some r) : ∀ e' p, a ≠ .Starred e' p := by
 rintro e' p rfl
 rw [jH] at e; exact nos e
theorem bv {e : Expr} {rest : List Expr} (h : ∀ e' p, e ≠ .Starred e' p) : starEach (e :: rest) env = (false, eval e env) :: starEach rest env := by
 cases e <;> first | rfl | exact absurd rfl (h _ _)
theorem ec (I : ja prog w ca base cx Rm n) (hA : Rm A) {pos : Pos} (es : List Expr) : ∀ (k : List MV -> M R) (s : Shared) (μ : Mp) (H : MH) (Q : List Value -> Shared -> Prop), aP kd ρ env μ H.next s.heap -> Sim prog w ca base μ H s.heap ->
  eV (evE cx n kd ρ) es k H = some (x, Hx) -> Ks prog w ca base es.length μ H s k x Hx Q -> wpAny (model prog w) A (spliced (backTo pos (starEach es env))) Q E s := by
 induction es with
 | nil => intro k s μ H Q V S e hk; exact spliced_nil (hk μ H s.heap s.toks [] [] e S Ext.refl .nil rfl)
 | cons e1 es ih =>
  intro k s μ H Q V S e hk
  change (evE cx n kd ρ e1 fun v => eV (evE cx n kd ρ) es fun vs => k (v :: vs)) H = _ at e
  rw [bv (bJ e)]
  refine spliced_cons (I A E s μ H Hx kd ρ env e1 _ x _ hA V S e fun μ1 H1 h1 tk v r e1 S1 x1 v1 => ?_)
  exact ih _ _ μ1 H1 _ (V.mono x1) S1 e1 fun μ2 H2 h2 tk2 vs rs e2 S2 x2 v2 l2 => hk μ2 H2 h2 tk2 (v :: vs) (r :: rs) e2 S2 (x1.trans x2) (.cons (v1.mono x2) v2) (by rw [List.length_cons, List.length_cons, l2])
theorem mH {c : Const} {p1 : Nat} {p2 : Pos} {k : MV -> M R} {Q : Value -> Shared -> Prop} (S : Sim prog w ca base μ H s.heap) (e : evE cx (n + 1) kd ρ (.Constant c p1 p2) k H = some (x, Hx)) (hk : Kt prog w ca base μ H s k x Hx Q) :
  wpAny (model prog w) A (eval (.Constant c p1 p2) env) Q E s := by
 rw [eval_Constant]
 cases c with
 | none => exact wpAny_pure (hk.here (tk := s.toks) S e .none)
 | bool b => exact wpAny_pure (hk.here (tk := s.toks) S e (.bool b))
 | int i => exact wpAny_mkInt (hk.here S e (.int i _))
 | str t => exact wpAny_mkText (hk.here S e (.str t _))
 | _ => exact nos e
theorem pu (T : ck okF K ca base mg mb) (B : qV prog w ca base mg cx Rm) {y : Str} {p : Pos} {k : MV -> M R} {Q : Value -> Shared -> Prop} (V : aP kd ρ env μ H.next s.heap) (S : Sim prog w ca base μ H s.heap) (e : evE cx (n + 1) kd ρ (.Name y p) k H = some (x, Hx))
  (hk : Kt prog w ca base μ H s k x Hx Q) : wpAny (model prog w) A (eval (.Name y p) env) Q E s := by
 change (match kd y with
   | some .globalImplicit => (match cx.glob y with
    | some v => k v
    | none => ai)
   | some .globalExplicit => ai
   | some _ => (match ad ρ y with
    | some v => k v
    | none => ai)
   | none => ai) H = _ at e
 have here : ∀ {kk : NameKind}, kd y = some kk -> (kk = .local \/ kk = .cell \/ kk = .free) -> (match ad ρ y with
   | some v => k v
   | none => ai) H = some (x, Hx) -> wpAny (model prog w) A (eval (.Name y p) env) Q E s := by
  intro kk q hkk e
  cases l : ad ρ y with
  | none => rw [l] at e; exact nos e
  | some v =>
   rw [l] at e
   exact wpAny_Name (nh V q hkk l fun r v' => hk.here (tk := s.toks) S e v') (jw V q)
 cases q : kd y with
 | none => rw [q] at e; exact nos e
 | some kk =>
  rw [q] at e
  cases kk with
  | globalImplicit =>
   dsimp only at e
   cases g : cx.glob y with
   | none => rw [g] at e; exact nos e
   | some v =>
    rw [g] at e
    obtain ⟨r, g1, g2⟩ := B.glob y v g
    exact fq T S V q g1 (hk.here (tk := s.toks) S e (g2 μ H.next s.heap S.keeps fun b k z => S.mine b _ z))
  | globalExplicit => exact nos e
  | «local» => exact here q (.inl rfl) e
  | cell => exact here q (.inr (.inl rfl)) e
  | free => exact here q (.inr (.inr rfl)) e
theorem gC {v : Expr} {a : Str} (h : bc v = true) : attributeBase v a env (eval v env) = eval v env := by
 cases v with
 | Call f as ks p => cases f with
  | Name _ _ => cases as with
   | cons _ _ => rfl
   | nil => cases ks with
    | cons _ _ => rfl
    | nil => cases h
  | _ => rfl
 | _ => rfl
end
section
variable {okF : Nat -> Str -> Bool} {prog : Program} {w : World} {K : Frag} {ca : Nat -> Addr} {base : Heap} {mg mb : Str -> Option Value} {μ μ1 : Mp} {H H1 H' Hx : MH} {h1 : Heap} {A : Around} {E : Value -> Shared -> Prop} {s : Shared} {kd : Kd} {ρ : Rho} {env : Env}
variable {cx : Cx} {Rm : Around -> Prop} {n : Nat} {R : Type} {x : R}
theorem tx {o m : MV} {a : Str} (e : am okF o a H = some (m, H')) : H' = H /\ ∃ c k fs, o = .ins c k /\ H.ins c k = some fs /\ okF c a = true /\ ad fs a = some m := by
 refine obC e fun p q e => obC e fun fs e1 e => itC e fun ok e => obC e fun v e2 e => ?_
 obtain ⟨rfl, rfl⟩ := okI e
 exact ⟨rfl, p.1, p.2, fs, kP q, e1, ok, e2⟩
theorem kv (T : ck okF K ca base mg mb) (S : Sim prog w ca base μ H s.heap) {o m : MV} {vo : Value} {a : Str} {ex : Bool} {Q : Value -> Shared -> Prop} (ro : av μ H.next s.heap o vo) (e : am okF o a H = some (m, H')) (h : Then prog w ca base μ H s H' m Q) :
  wpAny (model prog w) A (getAttr vo a ex) Q E s := by
 obtain ⟨rfl, c, k, fs, rfl, e1, ok, e2⟩ := tx e
 obtain ⟨rfl, _⟩ := ro.view
 exact sW T S e1 ok e2 fun v tk r => h.at S r
theorem pE (T : ck cx.okF K ca base mg mb) (I : ja prog w ca base cx Rm n) (hA : Rm A) {v : Expr} {a : Str} {p : Pos} {k : MV -> M R} {Q : Value -> Shared -> Prop} (V : aP kd ρ env μ H.next s.heap) (S : Sim prog w ca base μ H s.heap)
  (e : evE cx (n + 1) kd ρ (.Attribute v a p) k H = some (x, Hx)) (hk : Kt prog w ca base μ H s k x Hx Q) : wpAny (model prog w) A (eval (.Attribute v a p) env) Q E s := by
 change (if bc v then evE cx n kd ρ v fun o => aa (am cx.okF o a) k else ai) H = _ at e
 by_cases q : bc v = true
 ·rw [if_pos q] at e
  refine Attribute_any_ (I A E s μ H Hx kd ρ env v _ x _ hA V S e fun μ1 H1 h1 tk m r e1 S1 x1 v1 => ?_) (by
   show (attributeBase v a env (eval v env) >>= _) = _
   rw [gC q])
  refine bC e1 fun m' H2 e2 e3 => ?_
  exact kv T S1 v1 e2 (hk.op x1 e3)
 ·rw [if_neg q] at e; exact nos e
theorem sA (I : Snd prog w ca base cx Rm n) (hA : Rm A) {l r : Expr} {op : Operator} {p : Pos} {k : MV -> M R} {Q : Value -> Shared -> Prop} (V : aP kd ρ env μ H.next s.heap) (S : Sim prog w ca base μ H s.heap)
  (e : evE cx (n + 1) kd ρ (.BinOp l op r p) k H = some (x, Hx)) (hk : Kt prog w ca base μ H s k x Hx Q) : wpAny (model prog w) A (eval (.BinOp l op r p) env) Q E s := by
 change (evE cx n kd ρ l fun a => evX cx n kd ρ r fun b => aa (dz op a b) k) H = _ at e
 refine wpAny_BinOp (I.E A E s μ H Hx kd ρ env l _ x _ hA V S e fun μ1 H1 h1 tk m r1 e1 S1 x1 v1 => ?_)
 refine I.X A E _ μ1 H1 Hx kd ρ env r _ x _ hA (V.mono x1) S1 e1 fun μ2 H2 h2 tk2 m2 r2 e2 S2 x2 v2 => ?_
 refine bC e2 fun m' H3 e3 e4 => ?_
 exact uX S2 (v1.mono x2) v2 e3 (hk.op (x1.trans x2) e4)
theorem nu {op : CmpOp} {r : Expr} {c : Bool} (h : kA op r = some c) : (∃ p, r = .List [] p) /\ op = bif c then .Eq else .NotEq := by
 change (if jB r = true then (match op with
  | .Eq => some true
  | .NotEq => some false
  | _ => none) else none) = some c at h
 by_cases q : jB r = true
 ·rw [if_pos q] at h
  refine ⟨kF q, ?_⟩
  cases op <;> cases h <;> rfl
 ·rw [if_neg q] at h; exact nos h
theorem gY {op : CmpOp} {r : Expr} (h : ¬ cX r = true) : behindInMarks op r = false := by
 cases r <;> first | rfl | exact absurd rfl h
theorem ip {A : Around} {p : Pos} {Q : Value -> Shared -> Prop} (S : Sim prog w ca base μ H s.heap) (h : ∀ h' c, Sim prog w ca base μ H h' -> Ext noF μ H.next s.heap μ H.next h' -> h'.get? c = some (gZ [] 0) -> av μ H.next h' (.fz []) (.ref c) -> Q (.ref c) { s with heap := h' }) :
  wpAny (model prog w) A (eval (.List [] p) env) Q E s := by
 refine List_ (spliced_nil ?_)
 refine wpAny_newObj_type ?_ (by show ([] : List Value).toArray.size <= sizeLine; simp)
 obtain ⟨S', y⟩ := S.grow (h' := s.heap.push { cls := .type "list", data := .seq ([] : List Value).toArray }) (fun b o e => Heap.get?_push_of_some _ e)
 have o : (s.heap.push { cls := .type "list", data := .seq ([] : List Value).toArray }).get? s.heap.objs.size = some (gZ [] 0) := Heap.get?_push_size _ rfl
 exact h _ _ S' y o (.fz o (S.new _ (Nat.le_refl _)) .nil)
theorem mI (T : ck okF K ca base mg mb) (O : Rok Rm) (I : Snd prog w ca base cx Rm n) (hA : Rm A) {l r : Expr} {op : CmpOp} {p : Pos} {k : MV -> M R} {Q : Value -> Shared -> Prop} (V : aP kd ρ env μ H.next s.heap) (S : Sim prog w ca base μ H s.heap)
  (e : evE cx (n + 1) kd ρ (.Compare l [op] [r] p) k H = some (x, Hx)) (hk : Kt prog w ca base μ H s k x Hx Q) :
  behindInMarks op r = false /\ wpAny (model prog w) A (eval l env) (fun a s₁ => wpAny (model prog w) A (eval r env) (fun b s₂ => wpAny (model prog w) A (compareOp op a b) Q E s₂) E s₁) E s := by
 have hu := O.un A hA
 change (if cX r then ai else (match kA op r with
    | some c => evE cx n kd ρ l fun a => aa (nt a) fun b => k (.bool (bif c then b else !b))
    | none => evE cx n kd ρ l fun a => evX cx n kd ρ r fun b => aa (az op a b) k)) H = _ at e
 by_cases z : cX r = true
 ·rw [if_pos z] at e; exact nos e
 rw [if_neg z] at e
 refine ⟨gY z, ?_⟩
 cases q : kA op r with
 | none =>
  rw [q] at e
  refine I.E A E s μ H Hx kd ρ env l _ x _ hA V S e fun μ1 H1 h1 tk m r1 e1 S1 x1 v1 => ?_
  refine I.X A E _ μ1 H1 Hx kd ρ env r _ x _ hA (V.mono x1) S1 e1 fun μ2 H2 h2 tk2 m2 r2 e2 S2 x2 v2 => ?_
  refine bC e2 fun m' H3 e3 e4 => ?_
  exact uW T S2 hu (v1.mono x2) v2 e3 (hk.op (x1.trans x2) e4)
 | some c =>
  rw [q] at e
  obtain ⟨⟨lp, rfl⟩, rfl⟩ := nu q
  refine I.E A E s μ H Hx kd ρ env l _ x _ hA V S e fun μ1 H1 h1 tk m r1 e1 S1 x1 v1 => ?_
  refine ip S1 fun h2 ca2 S2 x2 o2 v2 => ?_
  refine bC e1 fun b H3 e3 e4 => ?_
  obtain ⟨rfl, q1, q2⟩ := uP (Q := Q) (E := E) (s := { s with heap := h2, toks := tk }) S2 hu (v1.mono x2) o2 e3
  cases c with
  | true => exact q1 (hk μ1 H3 h2 tk (.bool b) _ e4 S2 (x1.trans x2) (.bool b))
  | false => exact q2 (hk μ1 H3 h2 tk (.bool (!b)) _ e4 S2 (x1.trans x2) (.bool _))
theorem mr {m : MV} {b : Bool} (e : ae m H = some (b, H')) : m = .bool b /\ H' = H := by
 unfold ae at e
 cases m with
 | bool c => obtain ⟨rfl, rfl⟩ := okI e; exact ⟨rfl, rfl⟩
 | _ => exact nos e
theorem dN {m : MV} {v : Value} {b : Bool} {Q : Bool -> Shared -> Prop} (r : av μ H.next s.heap m v) (e : ae m H = some (b, H')) (h : H' = H -> Q b s) : wpAny (model prog w) A (truthy v) Q E s := by
 obtain ⟨rfl, q⟩ := mr e
 obtain ⟨_, rfl⟩ := r.view
 exact wpAny_truthy_bool (h q)
theorem sx (I : ja prog w ca base cx Rm n) (hA : Rm A) {l : Expr} {p : Pos} {k : MV -> M R} {Q : Value -> Shared -> Prop} (V : aP kd ρ env μ H.next s.heap) (S : Sim prog w ca base μ H s.heap)
  (e : evE cx (n + 1) kd ρ (.UnaryOp .Not l p) k H = some (x, Hx)) (hk : Kt prog w ca base μ H s k x Hx Q) : wpAny (model prog w) A (eval (.UnaryOp .Not l p) env) Q E s := by
 change (evE cx n kd ρ l fun v => aa (ae v) fun b => k (.bool (!b))) H = _ at e
 refine UnaryOp_ (I A E s μ H Hx kd ρ env l _ x _ hA V S e fun μ1 H1 h1 tk m r1 e1 S1 x1 v1 => ?_)
 refine bC e1 fun b H2 e2 e3 => ?_
 exact not_of (dN v1 e2 fun q => by subst q; exact hk μ1 H2 h1 tk (.bool (!b)) _ e3 S1 x1 (.bool _))
end
section
variable {okF : Nat -> Str -> Bool} {prog : Program} {w : World} {K : Frag} {ca : Nat -> Addr} {base : Heap} {mg mb : Str -> Option Value} {μ μ1 : Mp} {H H1 H' Hx : MH} {h1 : Heap} {A : Around} {E : Value -> Shared -> Prop} {s : Shared} {kd : Kd} {ρ : Rho} {env : Env}
variable {cx : Cx} {Rm : Around -> Prop} {n : Nat} {R : Type} {x : R}
theorem nE (S : Sim prog w ca base μ H s.heap) {a b m : MV} {va : Value} (ra : av μ H.next s.heap a va) (e : aw a b H = some (m, H')) : ∃ T id, s.TypeIs va T /\ typeLookup (.type T) "__getitem__" = pure (some (.builtin id)) := by
 have dct : ∀ k d, H.dct k = some d -> ∃ T id, s.TypeIs (.ref (μ.at_ k)) T /\ typeLookup (.type T) "__getitem__" = pure (some (.builtin id)) := fun k d q => by
  obtain ⟨es, ep, o⟩ := S.dct_obj q
  exact ⟨"dict", _, ⟨_, o, rfl⟩, PySem.F.slot_dict_getitem.lookup⟩
 refine elC e (fun i q e => elC e (fun k q1 e => obC e fun d e1 e => ?_) fun e => elC e (fun x q1 e => ?_) fun e => obC e fun xs e1 e => ?_) fun e => obC e fun x q e => obC e fun k q1 e => obC e fun d e1 e => ?_
 ·refine ra.dctC q1 fun _ => ?_
  exact dct _ _ e1
 ·refine ra.strC q1 fun _ => ?_
  exact ⟨"str", _, typeIs_str _ _ _, PySem.F.slot_str_getitem.lookup⟩
 ·obtain ⟨l, vs, rfl, ht, rs⟩ := eR S ra e1
  rcases ht with ht | ht
  ·exact ⟨"list", _, ht.typeIs, PySem.F.slot_list_getitem.lookup⟩
  ·exact ⟨"tuple", _, ht.typeIs, PySem.F.slot_tuple_getitem.lookup⟩
 ·refine ra.dctC q1 fun _ => ?_
  exact dct _ _ e1
theorem mw {i : Expr} {o iv : Value} (h : ∀ l u p, i ≠ .Slice l u none p) : subscripted i false o iv = operate [o, iv] (getItem o iv) := by
 cases i with
 | Slice l u st p => cases st with
  | none => exact absurd rfl (h _ _ _)
  | some _ => rfl
 | _ => rfl
theorem mx {v : Expr} {lo hi : Option Expr} {sp : Pos} {H3 : MH} {lo' hi' m m' : MV} {r1 vl vu : Value} {k : MV -> M R} {Q : Value -> Shared -> Prop} (S2 : Sim prog w ca base μ H s.heap) (v1 : av μ H.next s.heap m r1) (rl : av μ H.next s.heap lo' vl) (ru : av μ H.next s.heap hi' vu)
  (e3 : lP m lo' hi' H = some (m', H3)) (e4 : k m' H3 = some (x, Hx)) (hk : Kt prog w ca base μ H s k x Hx Q) :
  wpAny (model prog w) A (newFields "slice" [vl, vu, .none]) (fun iv s₂ => wpAny (model prog w) A (subscriptTail v (.Slice lo hi none sp) r1 iv) Q E s₂) E s := by
 unfold newFields
 refine wpAny_newObj_type ?_ (by show #[vl, vu, Value.none].size <= sizeLine + 2; rw [sizeLine_eq]; simp)
 obtain ⟨S3, x3⟩ := S2.grow (h' := s.heap.push { cls := .type "slice", data := .fields #[vl, vu, .none] }) (fun b o e => Heap.get?_push_of_some _ e)
 have hs : (s.heap.push { cls := .type "slice", data := .fields #[vl, vu, .none] }).IsSliceOf s.heap.objs.size vl vu .none := Heap.IsSliceOf.new ..
 generalize s.heap.push { cls := .type "slice", data := .fields #[vl, vu, .none] } = h2 at S3 x3 hs ⊢
 have r3 := v1.mono x3
 refine ay fun X hX => ?_
 refine obC e3 fun xs q _ => ?_
 obtain ⟨a, vs, ep, rfl, o, _⟩ := bH (s := { s with heap := h2 }) S3 r3 q
 refine hX ?_
 exact tail_any (T := "list") ⟨_, o, rfl⟩ PySem.F.slot_list_getitem.lookup (uV (s := { s with heap := h2 }) S3 r3 (rl.mono x3) (ru.mono x3) hs e3 (hk.op (tk := s.toks) x3 e4)) rfl
theorem Kt.go {k : MV -> M R} {Q : Value -> Shared -> Prop} {tk : Nat} (hk : Kt prog w ca base μ H s k x Hx Q) (x1 : Ext noF μ H.next s.heap μ1 H1.next h1) : Kt prog w ca base μ1 H1 { s with heap := h1, toks := tk } k x Hx Q :=
 fun μ2 H2 h2 tk2 v r e S2 x2 v2 => hk μ2 H2 h2 tk2 v r e S2 (x1.trans x2) v2
theorem sq (I : Snd prog w ca base cx Rm n) (hA : Rm A) {v i : Expr} {p : Pos} {k : MV -> M R} {Q : Value -> Shared -> Prop} (V : aP kd ρ env μ H.next s.heap) (S : Sim prog w ca base μ H s.heap)
  (e : evE cx (n + 1) kd ρ (.Subscript v i p) k H = some (x, Hx)) (hk : Kt prog w ca base μ H s k x Hx Q) : wpAny (model prog w) A (eval (.Subscript v i p) env) Q E s := by
 change (evE cx n kd ρ v fun o => (match di i with
   | none => evE cx n kd ρ i fun iv => aa (aw o iv) k
   | some (none, some h, none) => evE cx n kd ρ h fun hv => aa (lP o .none hv) k
   | some (some l, none, none) => evE cx n kd ρ l fun lv => aa (lP o lv .none) k
   | _ => ai)) H = _ at e
 refine Subscript_ (I.E A E s μ H Hx kd ρ env v _ x _ hA V S e fun μ1 H1 h1 tk m r1 e1 S1 x1 v1 => ?_)
 clear e
 have hk := hk.go (tk := tk) x1
 have V := V.mono x1
 generalize hs : ({ s with heap := h1, toks := tk } : Shared) = s1 at hk
 obtain rfl : h1 = s1.heap := by rw [<- hs]
 clear x1 S
 cases q : di i with
 | none =>
  rw [q] at e1
  refine I.E A E _ μ1 H1 Hx kd ρ env i _ x _ hA V S1 e1 fun μ2 H2 h2 tk2 m2 r2 e2 S2 x2 v2 => ?_
  refine ay fun X hX => ?_
  refine bC e2 fun m' H3 e3 e4 => ?_
  obtain ⟨T, id, hT, hl⟩ := nE (s := { s1 with heap := h2, toks := tk2 }) S2 (v1.mono x2) e3
  refine hX ?_
  exact tail_any hT hl (sU S2 (v1.mono x2) v2 e3 (hk.op x2 e4)) (mw fun l u p z => by rw [z] at q; cases q)
 | some r =>
  rw [q] at e1
  obtain ⟨lo, hi, st⟩ := r
  obtain ⟨sp, rfl⟩ := lg q
  cases st with
  | some _ => cases lo <;> cases hi <;> cases e1
  | none =>
  cases lo with
  | none =>
   cases hi with
   | none => exact nos e1
   | some he =>
    show wpAny _ _ (do
     let l <- (pure Value.none : Sem Value)
     let u <- holding [l] (eval he env)
     let s' <- holding [l, u] (pure Value.none : Sem Value)
     newFields "slice" [l, u, s']) _ _ _
    refine wpAny_bind (wpAny_pure (wpAny_bind (wpAny_holding (I.E A E _ μ1 H1 Hx kd ρ env he _ x _ hA V S1 e1 fun μ2 H2 h2 tk2 m2 r2 e2 S2 x2 v2 => ?_))))
    refine ay fun X hX => ?_
    refine bC e2 fun m' H3 e3 e4 => ?_
    refine hX ?_
    exact wpAny_bind (wpAny_holding (wpAny_pure (mx S2 (v1.mono x2) .none v2 e3 e4 (hk.go x2))))
  | some le =>
   cases hi with
   | some _ => exact nos e1
   | none =>
    show wpAny _ _ (do
     let l <- eval le env
     let u <- holding [l] (pure Value.none : Sem Value)
     let s' <- holding [l, u] (pure Value.none : Sem Value)
     newFields "slice" [l, u, s']) _ _ _
    refine wpAny_bind (I.E A E _ μ1 H1 Hx kd ρ env le _ x _ hA V S1 e1 fun μ2 H2 h2 tk2 m2 r2 e2 S2 x2 v2 => ?_)
    refine ay fun X hX => ?_
    refine bC e2 fun m' H3 e3 e4 => ?_
    refine hX ?_
    exact wpAny_bind (wpAny_holding (wpAny_pure (wpAny_bind (wpAny_holding (wpAny_pure (mx S2 (v1.mono x2) v2 .none e3 e4 (hk.go x2)))))))
theorem d9 {m : MV} {Q : Value -> Shared -> Prop} (h : ∀ μ1 h1 tk r, Sim prog w ca base μ1 H1 h1 -> Ext noF μ H.next s.heap μ1 H1.next h1 -> av μ1 H1.next h1 m r -> Q r { s with heap := h1, toks := tk }) : Kt prog w ca base μ H s ac m H1 Q := by
 intro μ1 H2 h1 tk v r e S1 x1 v1
 refine ay fun X hX => ?_
 obtain ⟨rfl, rfl⟩ := jb e
 refine hX ?_
 exact h μ1 h1 tk r S1 x1 v1
theorem uH (I : ja prog w ca base cx Rm n) (hA : Rm A) {p : Pos} (vs : List Expr) : ∀ (s : Shared) (μ : Mp) (H : MH) (m : MV) (Q : Value -> Shared -> Prop), aP kd ρ env μ H.next s.heap -> Sim prog w ca base μ H s.heap ->
  orM (vs.map fun x => evE cx n kd ρ x ac) H = some (m, H1) -> Kt prog w ca base μ H s ac m H1 Q -> wpAny (model prog w) A (eval (.BoolOp .Or vs p) env) Q E s := by
 induction vs with
 | nil => intro s μ H m Q V S e hk; exact nos e
 | cons v vs ih =>
  intro s μ H m Q V S e hk
  cases vs with
  | nil => exact BoolOp_one (I A E s μ H H1 kd ρ env v ac m Q hA V S e hk)
  | cons v2 vs =>
  have e : aa (evE cx n kd ρ v ac) (fun a => aa (ae a) fun b => if b then ac a else orM ((v2 :: vs).map fun x => evE cx n kd ρ x ac)) H = some (m, H1) := e
  refine ay fun X hX => ?_
  refine bC e fun a H2 e1 e2 => ?_
  refine bC e2 fun b H3 e3 e4 => ?_
  refine hX ?_
  refine BoolOp_or (I A E s μ H H2 kd ρ env v ac a _ hA V S e1 (d9 fun μ1 h1 tk r S1 x1 v1 => dN (s := { s with heap := h1, toks := tk }) v1 e3 fun q => ?_))
  subst q
  cases b with
  | true => exact hk μ1 H3 h1 tk a r e4 S1 x1 v1
  | false => exact ih _ μ1 H3 m Q (V.mono x1) S1 e4 fun μ2 H4 h2 tk2 c rr e5 S2 x2 v2 => hk μ2 H4 h2 tk2 c rr e5 S2 (x1.trans x2) v2
theorem sB (I : ja prog w ca base cx Rm n) (hA : Rm A) {p : Pos} (vs : List Expr) : ∀ (s : Shared) (μ : Mp) (H : MH) (m : MV) (Q : Value -> Shared -> Prop), aP kd ρ env μ H.next s.heap -> Sim prog w ca base μ H s.heap ->
  mj (vs.map fun x => evE cx n kd ρ x ac) H = some (m, H1) -> Kt prog w ca base μ H s ac m H1 Q -> wpAny (model prog w) A (eval (.BoolOp .And vs p) env) Q E s := by
 induction vs with
 | nil => intro s μ H m Q V S e hk; exact nos e
 | cons v vs ih =>
  intro s μ H m Q V S e hk
  cases vs with
  | nil => exact BoolOp_one (I A E s μ H H1 kd ρ env v ac m Q hA V S e hk)
  | cons v2 vs =>
  have e : aa (evE cx n kd ρ v ac) (fun a => aa (ae a) fun b => if b then mj ((v2 :: vs).map fun x => evE cx n kd ρ x ac) else ac a) H = some (m, H1) := e
  refine ay fun X hX => ?_
  refine bC e fun a H2 e1 e2 => ?_
  refine bC e2 fun b H3 e3 e4 => ?_
  refine hX ?_
  refine BoolOp_and (I A E s μ H H2 kd ρ env v ac a _ hA V S e1 (d9 fun μ1 h1 tk r S1 x1 v1 => dN (s := { s with heap := h1, toks := tk }) v1 e3 fun q => ?_))
  subst q
  cases b with
  | false => exact hk μ1 H3 h1 tk a r e4 S1 x1 v1
  | true => exact ih _ μ1 H3 m Q (V.mono x1) S1 e4 fun μ2 H4 h2 tk2 c rr e5 S2 x2 v2 => hk μ2 H4 h2 tk2 c rr e5 S2 (x1.trans x2) v2
theorem uI (I : Snd prog w ca base cx Rm n) (hA : Rm A) {t b o : Expr} {p : Pos} {k : MV -> M R} {Q : Value -> Shared -> Prop} (V : aP kd ρ env μ H.next s.heap) (S : Sim prog w ca base μ H s.heap)
  (e : evE cx (n + 1) kd ρ (.IfExp t b o p) k H = some (x, Hx)) (hk : Kt prog w ca base μ H s k x Hx Q) : wpAny (model prog w) A (eval (.IfExp t b o p) env) Q E s := by
 refine ay fun X hX => ?_
 change aa (aa (evB cx n kd ρ t) fun c => if c then evE cx n kd ρ b ac else evE cx n kd ρ o ac) k H = _ at e
 refine bC e fun m H2 e1 e2 => ?_
 refine bC e1 fun c H1 e3 e4 => ?_
 refine hX ?_
 refine IfExp_ (I.B A E s μ H H1 kd ρ env t c _ hA V S e3 fun μ1 h1 tk S1 x1 => ?_)
 cases c with
 | true => exact I.E A E _ μ1 H1 H2 kd ρ env b ac m _ hA (V.mono x1) S1 e4 (d9 fun μ2 h2 tk2 r S2 x2 v2 => hk μ2 H2 h2 tk2 m r e2 S2 (x1.trans x2) v2)
 | false => exact I.E A E _ μ1 H1 H2 kd ρ env o ac m _ hA (V.mono x1) S1 e4 (d9 fun μ2 h2 tk2 r S2 x2 v2 => hk μ2 H2 h2 tk2 m r e2 S2 (x1.trans x2) v2)
theorem sy {i : Int} {p1 : Nat} {p2 p : Pos} {k : MV -> M R} {Q : Value -> Shared -> Prop} (S : Sim prog w ca base μ H s.heap) (e : evE cx (n + 1) kd ρ (.UnaryOp .USub (.Constant (.int i) p1 p2) p) k H = some (x, Hx)) (hk : Kt prog w ca base μ H s k x Hx Q) :
  wpAny (model prog w) A (eval (.UnaryOp .USub (.Constant (.int i) p1 p2) p) env) Q E s := by
 exact UnaryOp_ (wpAny_Constant_int (PyProof.Rows.neg_int (hk.here S e (.int _ _))))
end
theorem iL {es : List Expr} (h : few es = true) : es.length < 30 /\ es.all bj = true := by
 refine dA h fun a b => ?_
 exact ⟨of_decide_eq_true a, b⟩
theorem eu {env : Env} {pos : Pos} : ∀ {es : List Expr}, es.all bj = true -> (backTo pos (starEach es env)).any (·.1) = false := by
 intro es
 induction es with
 | nil => exact fun _ => rfl
 | cons e es ih =>
  intro h
  obtain ⟨a, b⟩ := Bool.and_eq_true_iff.mp (show (bj e && es.all bj) = true from h)
  rw [bv (by rintro e' p rfl; cases a)]
  show (false || (backTo pos (starEach es env)).any (·.1)) = false
  rw [ih b]; rfl
theorem gn {env : Env} {pos : Pos} {es : List Expr} (h : es.all bj = true) : (backTo pos (starEach es env)).all (fun x => !x.1) = true := by
 have := eu (env := env) (pos := pos) h
 rw [List.all_eq_true]
 intro x hx
 rw [List.any_eq_false] at this
 simpa using this x hx
section
variable {okF : Nat -> Str -> Bool} {prog : Program} {w : World} {K : Frag} {ca : Nat -> Addr} {base : Heap} {mg mb : Str -> Option Value} {μ μ1 : Mp} {H H1 H' Hx : MH} {h1 : Heap} {A : Around} {E : Value -> Shared -> Prop} {s : Shared} {kd : Kd} {ρ : Rho} {env : Env}
variable {cx : Cx} {Rm : Around -> Prop} {n : Nat} {R : Type} {x : R}
theorem cI {pos : Pos} {f : Value} {first : List Value} {es : List Expr} {P : Heap -> Prop} {Q : Value -> Shared -> Prop} (hs : es.all bj = true) (hk : ∀ h, P h -> ∃ k, (k = Keeper.frame \/ k = Keeper.machine \/ k = Keeper.boundFrame) /\ Looks (model prog w) h (keeperOf f) k)
  (h : wpAny (model prog w) A (spliced (backTo pos (starEach es env))) (fun vs s₁ => P s₁.heap /\ wpAny (model prog w) A (call f (first ++ vs)) Q E s₁) E s) : wpAny (model prog w) A (callWith pos f first (backTo pos (starEach es env)) []) Q E s := by
 cases es with
 | nil =>
  refine callWith_of rfl hk ?_
  unfold evalArgs
  show wpAny _ _ (spliced [] >>= _) _ _ _
  refine wpAny_bind (wpAny_mono h (fun vs s' h' => ?_) fun _ _ x => x)
  refine wpAny_holding ?_
  exact wpAny_bind (wpAny_pure (wpAny_bind (wpAny_pure (wpAny_pure h'))))
 | cons e es =>
  have q : starEach (e :: es) env = (false, eval e env) :: starEach es env := bv (by
   rintro e' p rfl
   obtain ⟨a, _⟩ := Bool.and_eq_true_iff.mp (show (bj (.Starred e' p) && es.all bj) = true from hs)
   cases a)
  have na := eu (env := env) (pos := pos) hs
  rw [q] at h na ⊢
  refine callWith_of (by rw [na]; rfl) hk (evalArgs_plain h)
theorem mD (I : ja prog w ca base cx Rm n) (hA : Rm A) {es : List Expr} {c : Nat} {p : Pos} {k : MV -> M R} {Q : Value -> Shared -> Prop} (V : aP kd ρ env μ H.next s.heap) (S : Sim prog w ca base μ H s.heap)
  (hf : few es = true) (e : eV (evE cx n kd ρ) es (fun vs => k (.tup vs)) H = some (x, Hx)) (hk : Kt prog w ca base μ H s k x Hx Q) : wpAny (model prog w) A (eval (.Tuple es c p) env) Q E s := by
 refine Tuple_ (ec I hA es _ s μ H _ V S e fun μ1 H1 h1 tk vs rs e1 S1 x1 v1 l1 => ?_)
 have z := v1.len
 have := (iL hf).1
 refine wpAny_newObj_type ?_ (by show rs.toArray.size <= sizeLine; rw [sizeLine_eq]; simp; exact gk _ _ _ 0 .y .z .x .y (.a .z (.n 1)) (.n 30) .x (.n 16777216) rfl (Nat.le_of_eq l1) (geE z) this)
 obtain ⟨S', y⟩ := S1.grow (h' := h1.push { cls := .type "tuple", data := .seq rs.toArray }) (fun b o e => Heap.get?_push_of_some _ e)
 exact hk μ1 H1 _ tk _ _ e1 S' (x1.trans y) (.tup (ep := 0) (dd := none) (sl := #[]) (Heap.get?_push_size _ rfl) (S1.new _ (Nat.le_refl _)) (v1.mono y))
theorem pB (I : ja prog w ca base cx Rm n) (hA : Rm A) {es : List Expr} {p : Pos} {k : MV -> M R} {Q : Value -> Shared -> Prop} (V : aP kd ρ env μ H.next s.heap) (S : Sim prog w ca base μ H s.heap)
  (hf : few es = true) (e : eV (evE cx n kd ρ) es (fun vs => aa (newL vs) k) H = some (x, Hx)) (hk : Kt prog w ca base μ H s k x Hx Q) : wpAny (model prog w) A (eval (.List es p) env) Q E s := by
 refine List_ (ec I hA es _ s μ H _ V S e fun μ1 H1 h1 tk vs rs e1 S1 x1 v1 l1 => ?_)
 have z := v1.len
 have := (iL hf).1
 refine wpAny_newObj_type ?_ (by show rs.toArray.size <= sizeLine; rw [sizeLine_eq]; simp; exact gk _ _ _ 0 .y .z .x .y (.a .z (.n 1)) (.n 30) .x (.n 16777216) rfl (Nat.le_of_eq l1) (geE z) this)
 refine bC e1 fun m H2 e2 e3 => ?_
 unfold newL at e2
 obtain ⟨rfl, rfl⟩ := okI e2
 obtain ⟨S', y⟩ := S1.newL (h' := h1.push { cls := .type "list", data := .seq rs.toArray }) (D := h1.objs.size) (vs := rs) (ep := 0) (fun b o e => Heap.get?_push_of_some _ e) (a8 (Nat.le_refl _)) (Heap.get?_push_size _ rfl) v1
 have v2 : av (μ1.add H1.next h1.objs.size h1.objs.size) (H1.next + 1) (h1.push { cls := .type "list", data := .seq rs.toArray }) (.lst H1.next) (.ref ((μ1.add H1.next h1.objs.size h1.objs.size).at_ H1.next)) := .lst H1.next (Nat.lt_succ_self _)
 rw [show (μ1.add H1.next h1.objs.size h1.objs.size).at_ H1.next = h1.objs.size from if_pos rfl] at v2
 exact hk _ _ _ tk _ _ e3 S' (x1.trans y) v2
theorem uJ (I : ja prog w ca base cx Rm n) (hA : Rm A) {es : List Expr} {p : Pos} {k : MV -> M R} {Q : Value -> Shared -> Prop} (V : aP kd ρ env μ H.next s.heap) (S : Sim prog w ca base μ H s.heap)
  (hf : few es = true) (e : eV (evE cx n kd ρ) es (fun vs => k (.fz vs)) H = some (x, Hx)) (hk : Kt prog w ca base μ H s k x Hx Q) : wpAny (model prog w) A (eval (.List es p) env) Q E s := by
 refine List_ (ec I hA es _ s μ H _ V S e fun μ1 H1 h1 tk vs rs e1 S1 x1 v1 l1 => ?_)
 have z := v1.len
 have := (iL hf).1
 refine wpAny_newObj_type ?_ (by show rs.toArray.size <= sizeLine; rw [sizeLine_eq]; simp; exact gk _ _ _ 0 .y .z .x .y (.a .z (.n 1)) (.n 30) .x (.n 16777216) rfl (Nat.le_of_eq l1) (geE z) this)
 obtain ⟨S', y⟩ := S1.grow (h' := h1.push { cls := .type "list", data := .seq rs.toArray }) (fun b o e => Heap.get?_push_of_some _ e)
 exact hk μ1 H1 _ tk _ _ e1 S' (x1.trans y) (.fz (ep := 0) (Heap.get?_push_size _ rfl) (S1.new _ (Nat.le_refl _)) (v1.mono y))
theorem mG {p : Pos} {k : MV -> M R} {Q : Value -> Shared -> Prop} (S : Sim prog w ca base μ H s.heap) (e : aa (newD (.s [])) k H = some (x, Hx)) (hk : Kt prog w ca base μ H s k x Hx Q) : wpAny (model prog w) A (eval (.Dict [] [] p) env) Q E s := by
 refine wpAny_Dict_empty ?_
 refine bC e fun m H2 e2 e3 => ?_
 unfold newD at e2
 obtain ⟨rfl, rfl⟩ := okI e2
 obtain ⟨S', y⟩ := S.newD (h' := s.heap.push { cls := .type "dict", data := .dict #[] }) (D := s.heap.objs.size) (es := []) (kvs := []) (fun b o e => Heap.get?_push_of_some _ e) (a8 (Nat.le_refl _)) (Heap.DictOf.new _) .nil
 have v2 : av (μ.add H.next s.heap.objs.size s.heap.objs.size) (H.next + 1) (s.heap.push { cls := .type "dict", data := .dict #[] }) (.dct H.next) (.ref ((μ.add H.next s.heap.objs.size s.heap.objs.size).at_ H.next)) := .dct H.next (Nat.lt_succ_self _)
 rw [show (μ.add H.next s.heap.objs.size s.heap.objs.size).at_ H.next = s.heap.objs.size from if_pos rfl] at v2
 exact hk _ _ _ s.toks _ _ e3 S' y v2
theorem mF (I : ja prog w ca base cx Rm n) (hA : Rm A) {y : Str} {p1 : Nat} {p2 p : Pos} {v : Expr} {k : MV -> M R} {Q : Value -> Shared -> Prop} (V : aP kd ρ env μ H.next s.heap) (S : Sim prog w ca base μ H s.heap)
  (e : evE cx n kd ρ v (fun _ => k .junk) H = some (x, Hx)) (hk : Kt prog w ca base μ H s k x Hx Q) : wpAny (model prog w) A (eval (.Dict [some (.Constant (.str y) p1 p2)] [v] p) env) Q E s := by
 refine wpAny_Dict_walk (knd := PySem.strKind prog w) rfl rfl nofun (by simp) ?_
 obtain ⟨S0, x0⟩ := S.grow (h' := s.heap.push { cls := .type "dict", data := .dict #[] }) (fun b o e => Heap.get?_push_of_some _ e)
 have dead : s.heap.get? s.heap.objs.size = none := a8 (Nat.le_refl _)
 refine pairTrees_cons_walk ?_
 rw [eval_Constant]
 refine wpAny_mkText ?_
 refine I A E _ μ H Hx kd ρ env v _ x _ hA (V.mono x0) S0 e fun μ1 H1 h1 tk m r1 e1 S1 x1 v1 => ?_
 refine pairTrees_nil_walk ?_
 have D0 : (s.heap.push { cls := .type "dict", data := .dict #[] }).DictOf (PySem.strKind prog w) s.heap.objs.size [] := Heap.DictOf.new _
 have own0 : μ.own s.heap.objs.size = none := S.dead dead
 have D1 : h1.DictOf (PySem.strKind prog w) s.heap.objs.size [] := D0.at fun o e => (x1.keep _ o (aE own0) (fun f => f.elim) e).2
 obtain ⟨oo, ho⟩ : ∃ o, (s.heap.push { cls := .type "dict", data := .dict #[] }).get? s.heap.objs.size = some o := ⟨_, Heap.get?_push_size _ rfl⟩
 have own1 : μ1.own s.heap.objs.size = none := ((x1.keep _ oo (aE own0) (fun f => f.elim) ho).1).trans own0
 refine ⟨[(y, r1)], ⟨strKind_is prog w y _, rfl, trivial⟩, D1, fun h' D' sb => ?_⟩
 obtain ⟨es, ep, od⟩ := bM D1
 obtain ⟨S2, x2⟩ := S1.off (aE own1) (S.base_none dead) (fun o e q _ => by
  rw [od] at e; obtain rfl := Option.some.inj e
  obtain ⟨_, _, z⟩ := q; cases z) (fun b o hb e => sb.extBut b o hb e) (fun z => by rw [own1] at z; cases z)
 have x3 : Ext noF μ H.next s.heap μ1 H1.next h' := ((x0.trans x1).any.trans x2).drop fun b q => by
  have q : b = s.heap.objs.size := q
  rw [q]; exact dead
 exact hk μ1 H1 h' _ .junk _ e1 S2 x3 (.junk _)
end
theorem vy {f : Str} {vs : List MV} {H : MH} {r : MV × MH} (e : aG f vs H = some r) : f ∈ [f0, fZ, dL, a9, bX, aQ, ao] := by
 cases vs with
 | nil => exact nos e
 | cons v vs =>
 cases vs with
 | cons _ _ => exact nos e
 | nil =>
 change (if f = f0 then uv v else if f = fZ then wB v else if f = dL then wK v else if f = a9 then wA v else if f = bX then qt v else ai) H = _ at e
 by_cases q : f ∈ [f0, fZ, dL, a9, bX]
 ·rw [show [f0, fZ, dL, a9, bX, aQ, ao] = [f0, fZ, dL, a9, bX] ++ [aQ, ao] from rfl]
  exact List.mem_append_left _ q
 ·simp only [List.mem_cons, List.not_mem_nil, or_false, not_or] at q
  rw [if_neg q.1, if_neg q.2.1, if_neg q.2.2.1, if_neg q.2.2.2.1, if_neg q.2.2.2.2] at e
  exact nos e
theorem cJ {f : Str} {fv : Value} (e : bootBuiltins f = some fv) (h : f ∈ [f0, fZ, dL, a9, bX, aQ, ao]) (M : Model) (h' : Heap) : ∃ k, (k = Keeper.frame \/ k = Keeper.machine \/ k = Keeper.boundFrame) /\ Looks M h' (keeperOf fv) k := by
 have : fv = .builtin "len" \/ fv = .type "str" \/ fv = .type "int" \/ fv = .type "tuple" \/ fv = .type "dict" \/ fv = .type "range" \/ fv = .builtin "isinstance" := by
  simp only [List.mem_cons, List.not_mem_nil, or_false] at h
  rcases h with rfl | rfl | rfl | rfl | rfl | rfl | rfl
  ·rw [hM] at e; obtain rfl := Option.some.inj e; exact .inl rfl
  ·rw [hK] at e; obtain rfl := Option.some.inj e; exact .inr (.inl rfl)
  ·rw [eX] at e; obtain rfl := Option.some.inj e; exact .inr (.inr (.inl rfl))
  ·rw [ei] at e; obtain rfl := Option.some.inj e; exact .inr (.inr (.inr (.inl rfl)))
  ·rw [fK] at e; obtain rfl := Option.some.inj e; exact .inr (.inr (.inr (.inr (.inl rfl))))
  ·rw [ej] at e; obtain rfl := Option.some.inj e; exact .inr (.inr (.inr (.inr (.inr (.inl rfl)))))
  ·rw [bS] at e; obtain rfl := Option.some.inj e; exact .inr (.inr (.inr (.inr (.inr (.inr rfl)))))
 refine ⟨.machine, .inr (.inl rfl), ?_⟩
 rcases this with rfl | rfl | rfl | rfl | rfl | rfl | rfl <;> exact Looks.of_pure rfl
theorem jJ {f : Str} (h : f ∈ [f0, fZ, dL, a9, bX]) : f ∈ [f0, fZ, dL, a9, bX, aQ, ao] /\ ∃ fv, bootBuiltins f = some fv := by
 refine ⟨List.mem_append_left [aQ, ao] h, ?_⟩
 simp only [List.mem_cons, List.not_mem_nil, or_false] at h
 rcases h with rfl | rfl | rfl | rfl | rfl
 ·exact ⟨_, hM⟩
 ·exact ⟨_, hK⟩
 ·exact ⟨_, eX⟩
 ·exact ⟨_, ei⟩
 ·exact ⟨_, fK⟩
section
variable {okF : Nat -> Str -> Bool} {prog : Program} {w : World} {K : Frag} {ca : Nat -> Addr} {base : Heap} {mg mb : Str -> Option Value} {μ μ1 : Mp} {H H1 H' Hx : MH} {h1 : Heap} {A : Around} {E : Value -> Shared -> Prop} {s : Shared} {kd : Kd} {ρ : Rho} {env : Env}
variable {cx : Cx} {Rm : Around -> Prop} {n : Nat} {R : Type} {x : R}
theorem lL {args : List Expr} {a : Expr} {t : Str} (h : eh args = some (a, t)) : ∃ tp, args = [a, .Name t tp] := by
 match args, h with
 | [a', b], h =>
  change (match aT b with
   | some t => some (a', t)
   | none => none) = _ at h
  cases q : aT b with
  | none => rw [q] at h; exact nos h
  | some y =>
   rw [q] at h
   obtain ⟨tp, rfl⟩ := bx q
   cases h; exact ⟨tp, rfl⟩
 | [], h => exact nos h
 | [_], h => exact nos h
 | _ :: _ :: _ :: _, h => exact nos h
theorem pC (T : ck okF K ca base mg mb) (B : qV prog w ca base mg cx Rm) (I : ja prog w ca base cx Rm n) (hA : Rm A) {fn : Str} {fp p : Pos} {args : List Expr} {k : MV -> M R} {Q : Value -> Shared -> Prop} (V : aP kd ρ env μ H.next s.heap) (S : Sim prog w ca base μ H s.heap)
  (hf : few args = true) (e : (if kd fn = some .globalImplicit then (match cx.tab fn with
      | some g => eV (evE cx n kd ρ) args fun vs => aa (g vs) k
      | none => if fn = ao then (match eh args with
        | some (a, t) => if t = dL /\ kd t = some .globalImplicit /\ cx.tab t = none then evE cx n kd ρ a fun v => eB v (k (.bool true)) else ai
        | none => ai)
       else if cK fn then eV (evE cx n kd ρ) args fun vs => aa (aG fn vs) k else ai)
     else ai) H = some (x, Hx)) (hk : Kt prog w ca base μ H s k x Hx Q) : wpAny (model prog w) A (eval (.Call (.Name fn fp) args [] p) env) Q E s := by
 have hs := (iL hf).2
 by_cases hg : kd fn = some .globalImplicit
 ·rw [if_pos hg] at e
  cases ht : cx.tab fn with
  | some g =>
   rw [ht] at e
   obtain ⟨fv, f1, f2, f3⟩ := B.tab fn g ht
   refine Call_ (fq T S V hg f1 ?_)
   refine cI (P := fun h => ∀ b o, base.get? b = some o -> h.get? b = some o) hs (fun h q => f2 _ h q) ?_
   refine ec I hA args _ s μ H _ V S e fun μ1 H1 h1 tk vs rs e1 S1 x1 v1 _ => ?_
   refine bC e1 fun m H2 e2 e3 => ?_
   exact ⟨S1.keeps, f3 A E _ μ1 H1 H2 Q vs rs m hA S1 v1 e2 (hk.op x1 e3)⟩
  | none =>
   rw [ht] at e
   replace e := (show (if fn = ao then (match eh args with
        | some (a, t) => if t = dL /\ kd t = some .globalImplicit /\ cx.tab t = none then evE cx n kd ρ a fun v => eB v (k (.bool true)) else ai
        | none => ai)
       else if cK fn then eV (evE cx n kd ρ) args fun vs => aa (aG fn vs) k else ai) H = some (x, Hx) from e)
   by_cases hi : fn = ao
   ·rw [if_pos hi] at e
    subst hi
    have hm : ao ∈ [f0, fZ, dL, a9, bX, aQ, ao] := by decide +kernel
    refine Call_ (bI T S V hg (B.free _ hm ht) hm bS ?_)
    cases qa : eh args with
    | none => rw [qa] at e; exact nos e
    | some r =>
     rw [qa] at e
     obtain ⟨a, t⟩ := r
     obtain ⟨tp, rfl⟩ := lL qa
     change (if t = dL /\ kd t = some .globalImplicit /\ cx.tab t = none then evE cx n kd ρ a fun v => eB v (k (.bool true)) else ai) H = _ at e
     by_cases hc : t = dL /\ kd t = some .globalImplicit /\ cx.tab t = none
     ·rw [if_pos hc] at e
      obtain ⟨rfl, c2, c3⟩ := hc
      refine cI (P := fun h => ∀ b o, base.get? b = some o -> h.get? b = some o) hs (fun h _ => cJ bS hm _ h) ?_
      have hm2 : dL ∈ [f0, fZ, dL, a9, bX, aQ, ao] := by decide +kernel
      rw [bv (bJ e)]
      refine spliced_cons (I A E s μ H Hx kd ρ env a _ x _ hA V S e fun μ1 H1 h1 tk m r1 e1 S1 x1 v1 => ?_)
      cases m with
      | int i =>
       obtain ⟨t1, rfl⟩ := v1.view
       rw [bv (by intro e' p h; cases h)]
       refine spliced_cons (bI T S1 (V.mono x1) c2 (B.free _ hm2 c3) hm2 eX (spliced_nil ⟨S1.keeps, ?_⟩))
       exact call_isinstance_yes (typeIs_int _ _ _) meta_int sub_int_int (hk μ1 H1 h1 tk _ _ e1 S1 x1 (.bool true))
      | _ => exact nos e1
     ·rw [if_neg hc] at e; exact nos e
   ·rw [if_neg hi] at e
    by_cases hm : cK fn = true
    ·rw [if_pos hm] at e
     have hm := of_decide_eq_true hm
     obtain ⟨hm7, fv, hb⟩ : fn ∈ [f0, fZ, dL, a9, bX, aQ, ao] /\ ∃ fv, bootBuiltins fn = some fv := jJ hm
     refine Call_ (bI T S V hg (B.free _ hm7 ht) hm7 hb ?_)
     refine cI (P := fun h => ∀ b o, base.get? b = some o -> h.get? b = some o) hs (fun h _ => cJ hb hm7 _ h) ?_
     refine ec I hA args _ s μ H _ V S e fun μ1 H1 h1 tk vs rs e1 S1 x1 v1 _ => ?_
     refine bC e1 fun m H2 e2 e3 => ?_
     obtain ⟨fv', b1, b2⟩ := pT (A := A) (E := E) (s := { s with heap := h1, toks := tk }) T S1 v1 e2 (hk.op x1 e3)
     rw [hb] at b1; obtain rfl := Option.some.inj b1
     exact ⟨S1.keeps, b2⟩
    ·rw [if_neg hm] at e; exact nos e
 ·rw [if_neg hg] at e; exact nos e
theorem nM {m : Str} {args : List Expr} {a : Expr} (h : fC m args = some a) : m = j7 /\ ∃ p, args = [a, .List [] p] := by
 match args, h with
 | [a', b], h =>
  change (if m = j7 /\ jB b = true then some a' else none) = _ at h
  by_cases q : m = j7 /\ jB b = true
  ·rw [if_pos q] at h; obtain rfl := Option.some.inj h
   obtain ⟨p, rfl⟩ := kF q.2
   exact ⟨q.1, p, rfl⟩
  ·rw [if_neg q] at h; exact nos h
 | [], h => exact nos h
 | [_], h => exact nos h
 | _ :: _ :: _ :: _, h => exact nos h
theorem nv {p : Pos} {args : List Expr} (hl : args.length < 30) (hs : args.all bj = true) : methodCallForm (args.length + ([] : List Keyword).length) (backTo p (starEach args env)) (backToKw p (keywordEach [] env)) = true := by
 unfold methodCallForm
 rw [gn hs]
 show (true && true && decide (args.length + 0 + 0 < 30)) = true
 rw [decide_eq_true (by exact aK _ 0 0 0 (.a .x (.n 1)) (.n 30) (.a (.a (.a .x (.n 0)) (.n 0)) (.n 1)) (.n 30) rfl hl)]; rfl
theorem pX {o : Expr} {m : Str} {apos p : Pos} (q2 : (apos.endLine == p.line) = true) : methodCallPos true o env apos p = pure p := by unfold methodCallPos; simp [q2]
theorem pA (T : ck okF K ca base mg mb) (I : ja prog w ca base cx Rm n) (hA : Rm A) {o : Expr} {m : Str} {apos p : Pos} {args : List Expr} {k : MV -> M R} {Q : Value -> Shared -> Prop} (V : aP kd ρ env μ H.next s.heap) (S : Sim prog w ca base μ H s.heap)
  (hf : few args = true) (hq : (bc o && apos.endLine == p.line) = true) (e : (evE cx n kd ρ o fun ov => aa (eO m ov) fun _ => (match fC m args with
      | some a => evE cx n kd ρ a fun v => aa (aM m ov [v, .fz []]) k
      | none => eV (evE cx n kd ρ) args fun vs => aa (aM m ov vs) k)) H = some (x, Hx)) (hk : Kt prog w ca base μ H s k x Hx Q) : wpAny (model prog w) A (eval (.Call (.Attribute o m apos) args [] p) env) Q E s := by
 obtain ⟨hl, hs⟩ := iL hf
 refine dA hq fun q1 q2 => ?_
 rw [arm_eval_Call, gC q1]
 refine wpAny_bind (I A E s μ H Hx kd ρ env o _ x _ hA V S e fun μ1 H1 h1 tk mo r1 e1 S1 x1 v1 => ?_)
 refine bC e1 fun u H2 e2 e3 => ?_
 obtain ⟨rfl, g⟩ := sV (A := A) (E := E) (s := { s with heap := h1, toks := tk }) S1 v1 e2
 clear e1 e2 e
 have hk := hk.go (tk := tk) x1
 have V := V.mono x1
 generalize hs1 : ({ s with heap := h1, toks := tk } : Shared) = s1 at hk g
 obtain rfl : h1 = s1.heap := by rw [<- hs1]
 clear x1 S hs1
 refine wpAny_bind (wpAny_standAt ?_)
 unfold methodCall
 rw [nv hl hs]
 refine wpAny_bind (wpAny_holding ?_)
 show wpAny _ A (getMethod r1 m _) _ E _
 refine g ?_
 refine wpAny_bind (wpAny_of_eq (pX (m := m) q2) ?_)
 refine cI (P := fun _ => True) hs (fun h _ => ⟨.machine, .inr (.inl rfl), Looks.of_pure rfl⟩) ?_
 cases qg : fC m args with
 | none =>
  rw [qg] at e3
  refine ec I hA args _ _ μ1 _ _ V S1 e3 fun μ2 H3 h2 tk2 vs rs e5 S2 x2 v2 _ => ?_
  refine bC e5 fun m' H4 e6 e7 => ?_
  exact ⟨trivial, km (s := { s1 with heap := h2, toks := tk2 }) T S2 (v1.mono x2) v2 e6 (hk.op x2 e7)⟩
 | some a =>
  rw [qg] at e3
  obtain ⟨rfl, lp, rfl⟩ := nM qg
  change (evE cx n kd ρ a fun v => aa (aM j7 mo [v, .fz []]) k) H2 = _ at e3
  rw [bv (bJ e3)]
  refine spliced_cons (I A E _ μ1 _ Hx kd ρ env a _ x _ hA V S1 e3 fun μ2 H3 h2 tk2 m2 r2 e4 S2 x2 v2 => ?_)
  rw [bv (by intro e' p h; cases h)]
  refine spliced_cons (ip S2 fun h3 c S3 x3 o3 v3 => spliced_nil ?_)
  refine bC e4 fun m' H4 e6 e7 => ?_
  exact ⟨trivial, km (s := { s1 with heap := h3, toks := tk2 }) T S3 (v1.mono (x2.trans x3)) (.cons (v2.mono x3) (.cons v3 .nil)) e6 (hk.op (x2.trans x3) e7)⟩
end
noncomputable def Mp.tag (μ : Mp) (D : Addr) (o : Option (Option Nat)) : Mp := ⟨μ.at_, fun b => if b = D then o else μ.own b⟩
noncomputable def clo (env : Env) : List (Str × NameKind) -> List (Str × Addr) -> List (Str × Addr)
 | [], acc => acc
 | (n, k) :: r, acc => clo env r (if k = .free then (match env.cells.lookup n with
  | some c => (n, c) :: acc
  | none => acc) else acc)
theorem lS {env : Env} (names : List (Str × NameKind)) : ∀ (acc : List (Str × Addr)) (y : Str) (c : Addr), env.cells.lookup y = some c -> ((y, NameKind.free) ∈ names \/ acc.lookup y = some c) -> (clo env names acc).lookup y = some c := by
 induction names with
 | nil =>
  intro acc y c _ h
  rcases h with h | h
  ·cases h
  ·exact h
 | cons p r ih =>
  obtain ⟨n, k⟩ := p
  intro acc y c hc h
  unfold clo
  refine ih _ y c hc ?_
  by_cases hk : k = .free
  ·rw [if_pos hk]
   by_cases hn : n = y
   ·subst hn
    right
    rw [hc]
    simp
   ·rcases h with h | h
    ·rcases List.mem_cons.mp h with z | z
     ·cases z; exact absurd rfl hn
     ·exact .inl z
    ·right
     split
     ·rw [List.lookup_cons, beq_eq_false_iff_ne.mpr (Ne.symm hn)]; exact h
     ·exact h
  ·rw [if_neg hk]
   rcases h with h | h
   ·rcases List.mem_cons.mp h with z | z
    ·cases z; exact absurd rfl hk
    ·exact .inl z
   ·exact .inr h
theorem nP {env : Env} (names : List (Str × NameKind)) (f : Str × NameKind -> List (Str × Addr) -> Sem (ForInStep (List (Str × Addr)))) (hf : ∀ n k acc, f (n, k) acc = if k == .free then (do let c <- cellOf env n; pure (.yield ((n, c) :: acc))) else pure (.yield acc)) :
  ∀ (acc : List (Str × Addr)), (∀ p ∈ names, p.2 = .free -> ∃ c, env.cells.lookup p.1 = some c) -> forIn names acc f = pure (clo env names acc) := by
 induction names with
 | nil => intro acc _; rw [List.forIn_nil]; rfl
 | cons p r ih0 =>
  obtain ⟨n, k⟩ := p
  intro acc h
  rw [List.forIn_cons, hf]
  have ih := fun acc => ih0 acc fun p hp => h p (List.mem_cons_of_mem _ hp)
  unfold clo
  by_cases hk : k = .free
  ·obtain ⟨c, hc⟩ := h (n, k) List.mem_cons_self hk
   have e : cellOf env n = pure c := by unfold cellOf; rw [hc]
   rw [if_pos (by rw [hk]; rfl), if_pos hk, hc, e]
   simp only [pure_bind]
   exact ih _
  ·rw [if_neg (by simpa using hk), if_neg hk]
   simp only [pure_bind]
   exact ih _
theorem jI {sc : Scope} {env : Env} (h : ∀ p ∈ sc.names, p.2 = .free -> ∃ c, env.cells.lookup p.1 = some c) : closureFor sc env = pure (clo env sc.names []) := by
 simp only [closureFor]
 rw [nP (env := env) _ _ (fun n k acc => by
  by_cases hk : k = .free <;> simp [hk]) [] h]
 rfl
theorem cU {sc : Scope} {kd : Kd} {y : Str} (h : ci sc kd y = true) : sc.kind = .function /\ sc.names.lookup y = some .local /\ sc.names.lookup gA = none /\ sc.names.lookup bL = none /\
  ∀ p ∈ sc.names, p.2 ≠ .cell /\ (p.2 = .local -> p.1 = y \/ (p.1 = cz /\ sc.names.lookup cz = some .local)) /\ (p.2 = .free -> kd p.1 = some .cell \/ kd p.1 = some .free) := by
 unfold ci at h
 simp only [Bool.and_eq_true, List.all_eq_true, Bool.or_eq_true, beq_iff_eq, bne_iff_ne] at h
 obtain ⟨⟨⟨⟨h1, h2⟩, h3⟩, h4⟩, h5⟩ := h
 refine ⟨h1, h2, h3, h4, fun p hp => ?_⟩
 obtain ⟨⟨a, b⟩, c⟩ := h5 p hp
 refine ⟨a, fun z => ?_, fun z => ?_⟩
 ·rcases b with b | b
  ·exact absurd z b
  ·exact b
 ·rcases c with c | c
  ·exact absurd z c
  ·exact c
theorem cZ {env : Env} {kd : Kd} (hf : env.scope.kind = .function) (hk : ∀ x, env.kindOf x = kd x) (names : List (Str × NameKind)) (z : Str) :
  (names.map fun (n, k) => if (k == NameKind.free && env.scope.kind == .function && env.kindOf n == some .cell) then (n, NameKind.cell) else (n, k)).lookup z = match names.lookup z with
   | some .free => if kd z = some .cell then some .cell else some .free
   | k => k := by
 induction names with
 | nil => rfl
 | cons p r ih =>
  obtain ⟨n, k⟩ := p
  rw [List.map_cons]
  show List.lookup z ((if (k == NameKind.free && env.scope.kind == .function && env.kindOf n == some .cell) = true then (n, NameKind.cell) else (n, k)) :: _) = _
  by_cases hz : z = n
  ·subst hz
   rw [List.lookup_cons_self]
   by_cases hc : (k == NameKind.free && env.scope.kind == .function && env.kindOf z == some .cell) = true
   ·rw [if_pos hc, List.lookup_cons_self]
    simp only [Bool.and_eq_true, beq_iff_eq, hk] at hc
    obtain ⟨⟨rfl, _⟩, c⟩ := hc
    simp [c]
   ·rw [if_neg hc, List.lookup_cons_self]
    cases k with
    | free =>
     have : ¬ kd z = some .cell := by
      intro q
      apply hc
      rw [hf, hk, q]; rfl
     simp [this]
    | _ => rfl
  ·have hz' : (z == n) = false := beq_eq_false_iff_ne.mpr hz
   have e2 : List.lookup z ((n, k) :: r) = List.lookup z r := by rw [List.lookup_cons, hz']
   rw [e2]
   by_cases hc : (k == NameKind.free && env.scope.kind == .function && env.kindOf n == some .cell) = true
   ·rw [if_pos hc, List.lookup_cons, hz']; exact ih
   ·rw [if_neg hc, List.lookup_cons, hz']; exact ih
section
variable {okF : Nat -> Str -> Bool} {prog : Program} {w : World} {K : Frag} {ca : Nat -> Addr} {base : Heap} {mg mb : Str -> Option Value} {μ μ1 : Mp} {H H1 H' Hx : MH} {h h' h1 : Heap} {A : Around} {E : Value -> Shared -> Prop} {s : Shared} {kd : Kd} {ρ : Rho} {env : Env}
variable {cx : Cx} {Rm : Around -> Prop} {n : Nat} {R : Type} {x : R}
theorem Sim.scr (S : Sim prog w ca base μ H h) {D : Addr} (hD : h.get? D = none) (keep : ∀ b o, h.get? b = some o -> h'.get? b = some o) (hD' : ∃ o, h'.get? D = some o) :
  Sim prog w ca base (μ.tag D (some none)) H h' /\ Ext noF μ H.next h (μ.tag D (some none)) H.next h' := by
 have od := S.dead hD
 have oth : ∀ b, b ≠ D -> (μ.tag D (some none)).own b = μ.own b := fun b q => if_neg q
 have x : Ext noF μ H.next h (μ.tag D (some none)) H.next h' := ⟨Nat.le_refl _, fun _ _ => rfl, fun b k e => (oth b (fun z => by rw [z, od] at e; cases e)).trans e, fun b o _ _ e => ⟨oth b (fun z => by rw [z, hD] at e; cases e), keep b o e⟩⟩
 have pl : ∀ {b : Addr} {k : Nat}, μ.own b = some (some k) -> (μ.tag D (some none)).own b = some (some k) := fun e => x.own _ _ e
 refine ⟨⟨fun b o e => keep b o (S.keeps b o e), fun b k e => ?_, fun k hk => pl (S.own k hk), fun b k e => ?_, fun c k fs e => ?_, fun k xs e => ?_, fun k es e => ?_, fun k es e => ?_⟩, x⟩
 ·by_cases z : b = D
  ·subst z; exact hD'
  ·rw [oth b z] at e
   exact (S.live b k e).imp fun o e => keep b o e
 ·by_cases z : b = D
  ·subst z; exact S.base_none hD
  ·rw [oth b z] at e
   exact S.mine b k e
 ·obtain ⟨l, d, es, ep, a, b, c', f⟩ := S.ins c k fs e
  exact ⟨l, d, es, ep, keep _ _ a, keep _ _ b, pl c', f.mono x⟩
 ·obtain ⟨l, vs, ep, a, b⟩ := S.lst k xs e
  exact ⟨l, vs, ep, keep _ _ a, b.mono x⟩
 ·obtain ⟨l, kvs, a, b⟩ := S.dctS k es e
  exact ⟨l, kvs, a.at fun o e => keep _ o e, b.mono x⟩
 ·obtain ⟨l, kvs, a, b⟩ := S.dctI k es e
  exact ⟨l, kvs, a.at fun o e => keep _ o e, b.mono x⟩
theorem Sim.unscr (S : Sim prog w ca base μ H h) {D : Addr} (od : μ.own D = some none) : Sim prog w ca base (μ.tag D none) H h /\ Ext (· = D) μ H.next h (μ.tag D none) H.next h := by
 have oth : ∀ b, b ≠ D -> (μ.tag D none).own b = μ.own b := fun b q => if_neg q
 have x : Ext (· = D) μ H.next h (μ.tag D none) H.next h := ⟨Nat.le_refl _, fun _ _ => rfl, fun b k e => (oth b (fun z => by rw [z, od] at e; cases e)).trans e, fun b o _ q e => ⟨oth b (fun z => by
  have := (q z).2
  rw [z, od] at this; cases this), e⟩⟩
 have pl : ∀ {b : Addr} {k : Nat}, μ.own b = some (some k) -> (μ.tag D none).own b = some (some k) := fun e => x.own _ _ e
 refine ⟨⟨S.keeps, fun b k e => ?_, fun k hk => pl (S.own k hk), fun b k e => ?_, fun c k fs e => ?_, fun k xs e => ?_, fun k es e => ?_, fun k es e => ?_⟩, x⟩
 ·by_cases z : b = D
  ·subst z
   rw [show (μ.tag b none).own b = none from if_pos rfl] at e; exact nos e
  ·rw [oth b z] at e
   exact S.live b k e
 ·by_cases z : b = D
  ·subst z
   rw [show (μ.tag b none).own b = none from if_pos rfl] at e; exact nos e
  ·rw [oth b z] at e
   exact S.mine b k e
 ·obtain ⟨l, d, es, ep, a, b, c', f⟩ := S.ins c k fs e
  exact ⟨l, d, es, ep, a, b, pl c', f.mono x⟩
 ·obtain ⟨l, vs, ep, a, b⟩ := S.lst k xs e
  exact ⟨l, vs, ep, a, b.mono x⟩
 ·obtain ⟨l, kvs, a, b⟩ := S.dctS k es e
  exact ⟨l, kvs, a, b.mono x⟩
 ·obtain ⟨l, kvs, a, b⟩ := S.dctI k es e
  exact ⟨l, kvs, a, b.mono x⟩
theorem qw {sc : Scope} {y : Str} {C : Addr} {v : MV} {r : Value} {m : Str -> Option Value} (ok : ci sc kd y = true) (nd : ad ρ cz = none) (V : aP kd ρ env μ n h) (oC : μ.own C = none) (N : h.Ns C m) (hm : m y = some r) (hv : av μ n h v r) :
  aP (gm sc kd) ((y, v) :: ρ) (compEnvC sc (clo env sc.names []) C env) μ n h := by
 obtain ⟨f1, f2, f3, f4, f5⟩ := cU ok
 have mem : ∀ {z : Str} {k : NameKind}, sc.names.lookup z = some k -> (z, k) ∈ sc.names := fun e => mem_of_lookup e
 refine ⟨f1, V.gl, V.bl, fun z => ?_, ?_, ?_, oC, ⟨m, N, fun z u l k => ?_⟩, fun z k => ?_⟩
 ·exact cZ V.fn V.kinds sc.names z
 ·unfold gm; rw [f3]
 ·unfold gm; rw [f4]
 ·have hz : z = y \/ (z = cz /\ sc.names.lookup cz = some .local) := by
   unfold gm at k
   cases q : sc.names.lookup z with
   | none => rw [q] at k; exact nos k
   | some kk =>
    rw [q] at k
    cases kk with
    | «local» => exact (f5 _ (mem q)).2.1 rfl
    | free => dsimp only at k; split at k <;> cases k
    | _ => cases k
  by_cases hy : z = y
  ·subst hy
   unfold ad at l
   rw [if_pos rfl] at l
   obtain rfl := Option.some.inj l
   exact ⟨r, hm, hv⟩
  ·unfold ad at l
   rw [if_neg hy, (hz.resolve_left hy).1, nd] at l
   exact nos l
 ·have q : sc.names.lookup z = some .free := by
   unfold gm at k
   cases q : sc.names.lookup z with
   | none => rw [q] at k; rcases k with k | k <;> cases k
   | some kk =>
    rw [q] at k
    cases kk with
    | free => rfl
    | cell => exact absurd rfl (f5 _ (mem q)).1
    | _ => rcases k with k | k <;> cases k
  have hne : z ≠ y := fun e => by rw [e, f2] at q; cases q
  obtain ⟨c, c1, c2, o, c3, c4⟩ := V.cel z ((f5 _ (mem q)).2.2 rfl)
  refine ⟨c, lS sc.names [] z c c1 (.inl (mem q)), c2, o, c3, fun u l => c4 u ?_⟩
  unfold ad at l
  rw [if_neg hne] at l
  exact l
theorem iN {sc : Scope} {y : Str} (ok : ci sc kd y = true) (V : aP kd ρ env μ n h) : closureFor sc env = pure (clo env sc.names []) := by
 obtain ⟨f1, f2, f3, f4, f5⟩ := cU ok
 exact jI fun p hp hk => by
  obtain ⟨c, c1, _⟩ := V.cel p.1 ((f5 p hp).2.2 hk)
  exact ⟨c, c1⟩
theorem nD {it : Addr} {src : Src} {j : Nat} {Q : Value -> Shared -> Prop} (I : ItR μ n s.heap it src j) (h : Q (.ref it) s) : wpAny (model prog w) A (pyIter (.ref it)) Q E s := by
 cases I with
 | lst k _ hk i => exact wpAny_pyIter_listiter i h
 | fz xs l _ v ne i => exact wpAny_pyIter_listiter i h
 | tup xs l _ v ne i => exact PySem.wpAny_pyIter_tupleiter i h
 | rng N _ i => exact wpAny_pyIter_rangeiter i h
end
section
variable {okF : Nat -> Str -> Bool} {prog : Program} {w : World} {K : Frag} {ca : Nat -> Addr} {base : Heap} {mg mb : Str -> Option Value} {μ μ1 : Mp} {H H1 H' Hx : MH} {h h' h1 : Heap} {A : Around} {E : Value -> Shared -> Prop} {s : Shared} {kd : Kd} {ρ : Rho} {env : Env}
variable {cx : Cx} {Rm : Around -> Prop} {n : Nat} {R : Type} {x : R}
theorem lQ (I : xC prog w ca base cx Rm n) (hA : Rm A) (ts : List Expr) : ∀ (s : Shared) (μ : Mp) (H : MH) (b : Bool) (Q : Bool -> Shared -> Prop), aP kd ρ env μ H.next s.heap -> Sim prog w ca base μ H s.heap ->
  bq (ts.map fun t => evB cx n kd ρ t) H = some (b, H1) -> (∀ μ1 h1 tk, Sim prog w ca base μ1 H1 h1 -> Ext noF μ H.next s.heap μ1 H1.next h1 -> Q b { s with heap := h1, toks := tk }) ->
  wpAny (model prog w) A (forIn ts true fun c r => if r = true then do let ok <- isTrue c env (eval c env); pure (ForInStep.yield ok) else pure (ForInStep.yield r)) Q E s := by
 induction ts with
 | nil =>
  intro s μ H b Q V S e h
  refine ay fun X hX => ?_
  obtain ⟨rfl, rfl⟩ := okI e
  refine hX ?_
  rw [List.forIn_nil]
  exact wpAny_pure (h μ s.heap s.toks S Ext.refl)
 | cons t ts ih =>
  intro s μ H b Q V S e h
  have e : aa (evB cx n kd ρ t) (fun c => if c then bq (ts.map fun t => evB cx n kd ρ t) else ac false) H = some (b, H1) := e
  refine ay fun X hX => ?_
  refine bC e fun c H2 e1 e2 => ?_
  refine hX ?_
  rw [List.forIn_cons]
  simp only [if_true]
  refine wpAny_bind (wpAny_bind (I A E s μ H H2 kd ρ env t c _ hA V S e1 fun μ1 h1 tk S1 x1 => wpAny_pure ?_))
  cases c with
  | true => exact ih _ μ1 H2 b Q (V.mono x1) S1 e2 fun μ2 h2 tk2 S2 x2 => h μ2 h2 tk2 S2 (x1.trans x2)
  | false =>
   refine ay fun X hX => ?_
   obtain ⟨rfl, rfl⟩ := okI e2
   have skip : ∀ (l : List Expr) (s' : Shared), Q false s' -> wpAny (model prog w) A (forIn l false fun c r => if r = true then do let ok <- isTrue c env (eval c env); pure (ForInStep.yield ok) else pure (ForInStep.yield r)) Q E s' := by
    intro l
    induction l with
    | nil => intro s' q; rw [List.forIn_nil]; exact wpAny_pure q
    | cons a l ih =>
     intro s' q
     rw [List.forIn_cons]
     simp only [Bool.false_eq_true, if_false]
     exact wpAny_bind (wpAny_pure (ih s' q))
   refine hX ?_
   exact skip ts _ (h μ1 h1 tk S1 x1)
structure CF (h0 base : Heap) (μ : Mp) (h : Heap) (C : Addr) : Prop where
 dead : h0.get? C = none
 own : μ.own C = none
 base : base.get? C = none
 ns : ∃ m, h.Ns C m
theorem cR {h : Heap} {C : Addr} {m : Str -> Option Value} (N : h.Ns C m) : ∀ o, h.get? C = some o -> iG o -> False := by
 intro o e q
 obtain ⟨o', es, ep, e', d, _⟩ := N
 rw [e] at e'; cases e'
 obtain ⟨_, _, z⟩ := q
 rw [d] at z; cases z
noncomputable def bK (cx : Cx) (n : Nat) (kd : Kd) (ρ : Rho) (sc : Scope) (y : Str) (ifs : List Expr) (elt : Expr) (v : MV) : M (Option MV) :=
 aa (bq (ifs.map fun t => evB cx n (gm sc kd) ((y, v) :: ρ) t)) fun ok => if ok then evE cx n (gm sc kd) ((y, v) :: ρ) elt fun z => ac (some z) else ac none
inductive uo (prog : Program) (w : World) (ca : Nat -> Addr) (base : Heap) (cx : Cx) (n : Nat) (kd : Kd) (ρ : Rho) (env : Env) (sc : Scope) (y : Str) (ifs : List Expr) (elt : Expr) (it D C : Addr) (src : Src) (total : List MV) (H2 : MH) (μ : Mp) (H : MH) (s : Shared) (f : Nat) (s' : Shared) : Prop
 | mk (μ1 : Mp) (H1 : MH) (h1 : Heap) (tk : Nat) (j : Nat) (done rest : List MV) (vs : List Value) (ep : Nat) (es : s' = { s with heap := h1, toks := tk }) (S : Sim prog w ca base μ1 H1 h1) (x : Ext noF μ H.next s.heap μ1 H1.next h1) (V : aP kd ρ env μ1 H1.next h1) (F : ItF base μ1 h1 it) (I : ItR μ1 H1.next h1 it src j)
  (oD : μ1.own D = some none) (eD : h1.get? D = some (gZ vs ep)) (rD : ax μ1 H1.next h1 done vs) (cf : CF s.heap base μ1 h1 C) (e : aH src (bK cx n kd ρ sc y ifs elt) f j H1 = some (rest, H2)) (et : done ++ rest = total) : uo prog w ca base cx n kd ρ env sc y ifs elt it D C src total H2 μ H s f s'
theorem lR (O : Rok Rm) (I : Snd prog w ca base cx Rm n) (hA : Rm A) {sc : Scope} {y : Str} {py : Pos} {ifs : List Expr} {elt : Expr} {it D C : Addr} {src : Src} {total : List MV} {H2 : MH} {n0 : Nat}
  (V : aP kd ρ env μ n0 s.heap) (ok : ci sc kd y = true) (nd : ad ρ cz = none) (hlen : total.length <= 10000) (hDb : base.get? D = none) (hDs : s.heap.get? D = none) (hit : s.heap.get? it = none) (hDC : D ≠ C) (hDi : D ≠ it) (hCi : C ≠ it)
  {Ev : Env} (hE : Ev = compEnvC sc (clo env sc.names []) C env) {P0 P : Shared -> Prop} {N : Value -> Shared -> Prop}
  (hR : ∀ μ1 h1 tk, Sim prog w ca base μ1 H2 h1 -> Ext noF μ H.next s.heap μ1 H2.next h1 -> av μ1 H2.next h1 (.fz total) (.ref D) -> CF s.heap base μ1 h1 C -> P0 { s with heap := h1, toks := tk })
  {f : Nat} {s' : Shared} (hP : ∀ m s', m < f -> uo prog w ca base cx n kd ρ env sc y ifs elt it D C src total H2 μ H s m s' -> P s') (hs : uo prog w ca base cx n kd ρ env sc y ifs elt it D C src total H2 μ H s f s') :
  wpAny (model prog w) A (pyNext (.ref it)) (fun r s₁ => match r with
   | none => P0 s₁
   | some v => wpAny (model prog w) A (assign (.Name y py) Ev v) (fun _ s₂ => wpAny (model prog w) A (forIn ifs true fun c r => if r = true then do let ok <- isTrue c Ev (eval c Ev); pure (ForInStep.yield ok) else pure (ForInStep.yield r))
     (fun ok s₃ => if ok = true then wpAny (model prog w) A (eval elt Ev) (fun x s₄ => wpAny (model prog w) A (call (.builtin "list.append") [.ref D, x]) (fun _ s₅ => P s₅) N s₄) N s₃ else P s₃) N s₂) N s₁) N s' := by
 refine ay fun X hX => ?_
 obtain ⟨f1, f2, f3, f4, f5⟩ := cU ok
 have hh := O.hd A hA
 obtain ⟨μ1, H1, h1, tk, j, done, rest, vs, ep, rfl, S1, x1, V1, F1, I1, oD, eD, rD, cf, e, et⟩ := hs
 refine hX ?_
 cases f with
 | zero => exact nos e
 | succ f =>
 unfold aH at e
 cases q : src.at_ H1 j with
 | none => rw [q] at e; exact nos e
 | some a =>
 rw [q] at e
 refine ng S1 hh F1 I1 q fun h2 tk2 r S2 x2 keep2 rn rs => ?_
 have x2' : Ext noF μ H.next s.heap μ1 H1.next h2 := ((x1.any (F := (· = it))).trans x2).drop fun b z => by
  have z : b = it := z
  rw [z]; exact hit
 have eD2 : h2.get? D = some (gZ vs ep) := keep2 D _ hDi eD
 have N2 : ∃ m, h2.Ns C m := cf.ns.imp fun m N => N.at fun o e => keep2 C o hCi e
 have V2 : aP kd ρ env μ1 H1.next h2 := V.past V1 x2 hit
 cases a with
 | none =>
  have := rn rfl
  refine ay fun X hX => ?_
  subst this
  obtain ⟨rfl, rfl⟩ := okI e
  rw [List.append_nil] at et
  subst et
  obtain ⟨S3, x3⟩ := S2.unscr oD
  have x4 : Ext noF μ H.next s.heap (μ1.tag D none) H1.next h2 := ((x2'.any (F := (· = D))).trans x3).drop fun b z => by
   have z : b = D := z
   rw [z]; exact hDs
  refine hX ?_
  exact hR (μ1.tag D none) h2 tk2 S3 x4 (.fz eD2 (if_pos rfl) ((rD.mono x2).mono x3)) ⟨cf.dead, (if_neg (Ne.symm hDC)).trans cf.own, cf.base, N2⟩
 | some m =>
  refine ay fun X hX => ?_
  obtain ⟨v, rfl, v2, F2, I2⟩ := rs m rfl
  obtain ⟨mC, N2⟩ := N2
  refine hX ?_
  dsimp only
  have hk : Ev.kindOf y = some .local := by
   rw [hE]
   have := cZ V2.fn V2.kinds sc.names y
   rw [f2] at this
   exact this
  refine wpAny_bind (wpAny_standAt (wpAny_bindName (wpAny_storeName_local (env := Ev) hk (by rw [hE]; exact N2) (fun h3 N3 sb => ?_) (by
   rw [hE]
   show (sc.kind == .class || (sc.kind == .module && _)) = false
   rw [f1]; rfl))))
  have hl : Ev.locals = C := by rw [hE]; rfl
  refine ay fun X hX => ?_
  rw [hl] at N3 sb
  obtain ⟨S3, x3⟩ := S2.off (h' := h3) (aE cf.own) cf.base (fun o e q _ => cR N2 o e q) (fun b o hb e => sb.extBut b o hb e) (fun z => by rw [cf.own] at z; exact nos z)
  have x3' : Ext noF μ H.next s.heap μ1 H1.next h3 := ((x2'.any (F := (· = C))).trans x3).drop fun b z => by
   have z : b = C := z
   rw [z]; exact cf.dead
  have V3 : aP kd ρ env μ1 H1.next h3 := V.past V2 x3 cf.dead
  obtain ⟨F3, k3⟩ := F2.keep x3 (fun z => hCi z.symm)
  have I3 := I2.keep x3 k3
  have eD3 : h3.get? D = some (gZ vs ep) := sb.extBut D _ hDC eD2
  have VC := qw ok nd V3 cf.own N3 (if_pos rfl) (v2.mono x3)
  rw [<- hE] at VC
  have e : aa (bK cx n kd ρ sc y ifs elt m) (fun r => aa (aH src (bK cx n kd ρ sc y ifs elt) f (j + 1)) fun ys => match r with
   | some y => ac (y :: ys)
   | none => ac ys) H1 = some (rest, H2) := e
  refine bC e fun ro H3 e1 e2 => ?_
  unfold bK at e1
  refine bC e1 fun b H4 e3 e4 => ?_
  refine hX ?_
  refine lQ I.B hA ifs _ μ1 H1 b _ VC S3 e3 fun μ4 h4 tk4 S4 x4 => ?_
  have x4' := x3'.trans x4
  have V4 := V3.mono x4
  obtain ⟨F4, k4⟩ := F3.keep x4 (fun z => z)
  have I4 := I3.keep x4 k4
  have eD4 : h4.get? D = some (gZ vs ep) := (x4.keep D _ (gD oD) (fun z => z.elim) eD3).2
  have oD4 : μ4.own D = some none := ((x4.keep D _ (gD oD) (fun z => z.elim) eD3).1).trans oD
  have rD4 : ax μ4 H4.next h4 done vs := (((rD.mono x2).mono x3).mono x4)
  have lC : ∃ o, h3.get? C = some o := by obtain ⟨o, _, _, ho, _⟩ := N3; exact ⟨o, ho⟩
  have cf4 : CF s.heap base μ4 h4 C := by
   obtain ⟨o, ho⟩ := lC
   exact ⟨cf.dead, (x4.keep C o (aE cf.own) (fun z => z.elim) ho).1.trans cf.own, cf.base, _, N3.at fun o e => (x4.keep C o (aE cf.own) (fun z => z.elim) e).2⟩
  have VC4 := VC.mono x4
  cases b with
  | false =>
   refine ay fun X hX => ?_
   obtain ⟨rfl, rfl⟩ := okI e4
   refine bC e2 fun ys H5 e5 e6 => ?_
   obtain ⟨rfl, rfl⟩ := okI e6
   refine hX ?_
   exact hP _ _ (Nat.lt_succ_self _) ⟨μ4, H4, h4, tk4, j + 1, done, ys, vs, ep, rfl, S4, x4', V4, F4, I4, oD4, eD4, rD4, cf4, e5, et⟩
  | true =>
   simp only [if_true] at e4 ⊢
   refine I.E A _ _ μ4 H4 H3 (gm sc kd) ((y, m) :: ρ) Ev elt (fun z => ac (some z)) ro _ hA VC4 S4 e4 fun μ5 H5 h5 tk5 z rz e7 S5 x5 v5 => ?_
   refine ay fun X hX => ?_
   obtain ⟨rfl, rfl⟩ := okI e7
   refine bC e2 fun ys H6 e5 e6 => ?_
   obtain ⟨rfl, rfl⟩ := okI e6
   have x5' := x4'.trans x5
   have V5 := V4.mono x5
   obtain ⟨F5, k5⟩ := F4.keep x5 (fun z => z)
   have I5 := I4.keep x5 k5
   have eD5 : h5.get? D = some (gZ vs ep) := (x5.keep D _ (gD oD4) (fun z => z.elim) eD4).2
   have oD5 : μ5.own D = some none := ((x5.keep D _ (gD oD4) (fun z => z.elim) eD4).1).trans oD4
   have rD5 : ax μ5 H5.next h5 done vs := rD4.mono x5
   have zl := rD5.len
   have zt : done.length <= total.length := by rw [<- et, List.length_append]; exact iE _ _ 0 0 .x (.a .x .y) rfl
   have cf5 : CF s.heap base μ5 h5 C := by
    obtain ⟨m5, N5⟩ := cf4.ns
    obtain ⟨o, _, _, ho, _⟩ := id N5
    exact ⟨cf.dead, (x5.keep C o (aE cf4.own) (fun z => z.elim) ho).1.trans cf4.own, cf.base, _, N5.at fun o e => (x5.keep C o (aE cf4.own) (fun z => z.elim) e).2⟩
   refine hX ?_
   refine wpAny_list_append_plain (items := vs.toArray) ⟨ep, eD5⟩ (fun h6 p6 sb6 => ?_) (by rw [sizeLine_eq]; simp; exact gk _ _ _ 0 .y (.n 10000) .x .z .z .y .x (.n 16777216) rfl hlen (geE zl) zt)
   refine ay fun X hX => ?_
   obtain ⟨ep6, eD6⟩ := p6
   obtain ⟨S6, x6⟩ := S5.off (h' := h6) (gD oD5) hDb (fun o e q q' => by rw [oD5] at q'; cases q') (fun b o hb e => sb6.extBut b o hb e) (fun _ => ⟨_, eD6⟩)
   have x6' : Ext noF μ H.next s.heap μ5 H5.next h6 := ((x5'.any (F := (· = D))).trans x6).drop fun b z => by
    have z : b = D := z
    rw [z]; exact hDs
   obtain ⟨F6, k6⟩ := F5.keep x6 (fun z => hDi z.symm)
   obtain ⟨m6, N6⟩ := cf5.ns
   refine hX ?_
   refine hP _ _ (Nat.lt_succ_self _) ⟨μ5, H5, h6, tk5, j + 1, done ++ [z], ys, vs ++ [rz], ep6, rfl, S6, x6', V.past V5 x6 hDs, F6, I5.keep x6 k6, oD5, by rw [eD6]; simp, ax.app (.cons (v5.mono x6) .nil) (rD5.mono x6),
    ⟨cf.dead, cf5.own, cf.base, m6, N6.at fun o e => sb6.extBut C o (Ne.symm hDC) e⟩, e5, by rw [<- et]; simp⟩
theorem n7 (O : Rok Rm) (I : Snd prog w ca base cx Rm n) (hA : Rm A) {sc : Scope} {y : Str} {py : Pos} {iter : Expr} {ifs : List Expr} {elt : Expr} {pos : Pos} {it D C : Addr} {src : Src} {total : List MV} {H2 : MH} {R' : Result -> Shared -> Prop} {n0 : Nat}
  (V : aP kd ρ env μ n0 s.heap) (ok : ci sc kd y = true) (nd : ad ρ cz = none) (hlen : total.length <= 10000) (hDb : base.get? D = none) (hDs : s.heap.get? D = none) (hit : s.heap.get? it = none) (hDC : D ≠ C) (hDi : D ≠ it) (hCi : C ≠ it)
  (hR : ∀ μ1 h1 tk, Sim prog w ca base μ1 H2 h1 -> Ext noF μ H.next s.heap μ1 H2.next h1 -> av μ1 H2.next h1 (.fz total) (.ref D) -> CF s.heap base μ1 h1 C -> R' (.ok .next) { s with heap := h1, toks := tk })
  (f : Nat) {s' : Shared} (h : uo prog w ca base cx n kd ρ env sc y ifs elt it D C src total H2 μ H s f s') :
  codeAny (model prog w) A (.compLoop (.ListComp elt [⟨.Name y py, iter, ifs, 0⟩] sc pos) 0 (.ref it) (.ref D) (compEnvC sc (clo env sc.names []) C env)) R' s' := by
 refine codeAny_compLoop_tests (uo prog w ca base cx n kd ρ env sc y ifs elt it D C src total H2 μ H s) ?_ f h
 intro f s' hs
 exact lR O I hA V ok nd hlen hDb hDs hit hDC hDi hCi rfl (P0 := fun s => R' (.ok .next) s) (P := fun s' => ∃ m, m < f /\ uo prog w ca base cx n kd ρ env sc y ifs elt it D C src total H2 μ H s m s') hR (fun m _ l c => ⟨m, l, c⟩) hs
end
theorem iJ {e : Expr} {env : Env} (h : ¬ cX e = true) : ∀ x, foldedSetIterable e env x = pure x := by
 intro x
 cases e <;> first | rfl | exact absurd rfl h
section
variable {okF : Nat -> Str -> Bool} {prog : Program} {w : World} {K : Frag} {ca : Nat -> Addr} {base : Heap} {mg mb : Str -> Option Value} {μ μ1 : Mp} {H H1 H' Hx : MH} {h h' h1 : Heap} {A : Around} {E : Value -> Shared -> Prop} {s : Shared} {kd : Kd} {ρ : Rho} {env : Env}
variable {cx : Cx} {Rm : Around -> Prop} {n : Nat} {R : Type} {x : R}
theorem jY (O : Rok Rm) (I : Snd prog w ca base cx Rm n) (hA : Rm A) {sc : Scope} {y : Str} {py : Pos} {iter : Expr} {ifs : List Expr} {elt : Expr} {pos p : Pos} {k : MV -> M R} {use : Option (Value -> Sem Unit)} {Q : Value -> Shared -> Prop} (V : aP kd ρ env μ H.next s.heap) (S : Sim prog w ca base μ H s.heap)
  (e : evE cx (n + 1) kd ρ (.ListComp elt [⟨.Name y py, iter, ifs, 0⟩] sc pos) k H = some (x, Hx))
  (hR : ∀ μ1 H1 h1 tk v r C, k v H1 = some (x, Hx) -> Sim prog w ca base μ1 H1 h1 -> Ext noF μ H.next s.heap μ1 H1.next h1 -> av μ1 H1.next h1 v r -> CF s.heap base μ1 h1 C -> compPost (model prog w) A E use Q r C (.ok .next) { s with heap := h1, toks := tk }) :
  wpAny (model prog w) A (comprehension (.ListComp elt [⟨.Name y py, iter, ifs, 0⟩] sc pos) sc env p (newList []) false (eval iter env) use) Q E s := by
 change (if (0 : Int) == 0 && (ci sc kd y && !cX iter) then
      aW ρ <| evI cx n kd ρ iter fun src => aa (aH src.1 (bK cx n kd ρ sc y ifs elt) src.2 0) fun ys => if aC ys then k (.fz ys) else ai
     else ai) H = _ at e
 by_cases q : ((0 : Int) == 0 && (ci sc kd y && !cX iter)) = true
 ·rw [if_pos q] at e
  refine ay fun X hX => ?_
  unfold aW at e
  have nd : (ad ρ cz).isNone = true := by
   by_cases nd : (ad ρ cz).isNone = true
   ·exact nd
   ·rw [if_neg nd] at e; exact nos e
  rw [if_pos nd] at e
  have nd := Option.isNone_iff_eq_none.mp nd
  obtain ⟨ok, q2⟩ := Bool.and_eq_true_iff.mp (Bool.and_eq_true_iff.mp q).2
  have q2 : ¬ cX iter = true := by simpa using q2
  obtain ⟨f1, f2, f3, f4, f5⟩ := cU ok
  refine hX ?_
  refine wpAny_comprehension_free (cl := clo env sc.names []) rfl (iJ q2) (iN ok V) f1 (fun z hz hl => by rcases (f5 z hz).2.1 hl with q | ⟨q, q'⟩ <;> rw [q] <;> assumption) ?_
  refine I.I A E s μ H Hx kd ρ env iter _ x _ hA V S e fun μ1 H1 h1 tk it src f e1 S1 x1 dead F1 I1 => ?_
  refine ay fun X hX => ?_
  refine bC e1 fun ys H2 e2 e3 => ?_
  have hys : aC ys = true := by
   by_cases z : aC ys = true
   ·exact z
   ·rw [if_neg z] at e3; cases e3
  rw [if_pos hys] at e3
  refine hX ?_
  refine wpAny_newObj_type ?_ (by show ([] : List Value).toArray.size <= sizeLine; simp)
  have dD : h1.get? h1.objs.size = none := a8 (Nat.le_refl _)
  have oD : (h1.push { cls := .type "list", data := .seq ([] : List Value).toArray }).get? h1.objs.size = some (gZ [] 0) := Heap.get?_push_size _ rfl
  obtain ⟨S2, x2⟩ := S1.scr dD (h' := h1.push { cls := .type "list", data := .seq ([] : List Value).toArray }) (fun b o e => Heap.get?_push_of_some _ e) ⟨_, oD⟩
  generalize hh2 : h1.push { cls := .type "list", data := .seq ([] : List Value).toArray } = h2 at oD S2 x2 ⊢
  refine wpAny_newFunctionEnv (fun z hz => (f5 z hz).1) (by intro z hz; simp at hz) (fun h3 N3 sb => ?_) f1
  have dC : h2.get? h2.objs.size = none := a8 (Nat.le_refl _)
  have keep : ∀ b o, h2.get? b = some o -> h3.get? b = some o := fun b o e => sb.extBut b o (Nat.ne_of_lt (Heap.lt_size e)) (Heap.get?_push_of_some _ e)
  obtain ⟨S3, x3⟩ := S2.grow keep
  have x13 := x2.trans x3
  have hDs : s.heap.get? h1.objs.size = none := x1.dead S1 dD
  have hCs : s.heap.get? h2.objs.size = none := (x1.trans x2).dead S2 dC
  have hDi : h1.objs.size ≠ it := fun z => by
   obtain ⟨o, ho, _⟩ := F1.live
   rw [z, ho] at dD; cases dD
  have hCi : h2.objs.size ≠ it := fun z => by
   obtain ⟨F2, k2⟩ := F1.keep x2 (fun f => f)
   obtain ⟨o, ho, _⟩ := F2.live
   rw [z, ho] at dC; cases dC
  have hDC : h1.objs.size ≠ h2.objs.size := fun z => by rw [z] at oD; rw [oD] at dC; cases dC
  obtain ⟨F3, k3⟩ := F1.keep x13 (fun f => f)
  have I3 := I1.keep x13 k3
  have inv : uo prog w ca base cx n kd ρ env sc y ifs elt it h1.objs.size h2.objs.size src ys H2 μ H s f { s with heap := h3, toks := tk + ([] : List (Str × Value)).length } :=
   ⟨_, H1, h3, _, 0, [], ys, [], 0, rfl, S3, x1.trans x13, V.mono (x1.trans x13), F3, I3, if_pos rfl, keep _ _ oD, .nil, ⟨hCs, S2.dead dC, S2.base_none dC, _, N3⟩, e2, rfl⟩
  have loop := n7 (A := A) O I hA (iter := iter) (py := py) (pos := pos) (R' := compPost (model prog w) A E use Q (.ref h1.objs.size) h2.objs.size) V ok nd (c7 hys) (S1.base_none dD) hDs dead hDC hDi hCi
   (fun μ5 h5 tk5 S5 x5 v5 cf5 => hR μ5 H2 h5 tk5 _ _ _ e3 S5 x5 v5 cf5) f inv
  exact codeAny_compStart_list loop (nD I3 loop)
 ·rw [if_neg q] at e; exact nos e
theorem io (O : Rok Rm) (I : Snd prog w ca base cx Rm n) (hA : Rm A) {sc : Scope} {y : Str} {py : Pos} {iter : Expr} {ifs : List Expr} {elt : Expr} {pos : Pos} {k : MV -> M R} {Q : Value -> Shared -> Prop} (V : aP kd ρ env μ H.next s.heap) (S : Sim prog w ca base μ H s.heap)
  (e : evE cx (n + 1) kd ρ (.ListComp elt [⟨.Name y py, iter, ifs, 0⟩] sc pos) k H = some (x, Hx)) (hk : Kt prog w ca base μ H s k x Hx Q) : wpAny (model prog w) A (eval (.ListComp elt [⟨.Name y py, iter, ifs, 0⟩] sc pos) env) Q E s := by
 rw [eval_ListComp]
 refine jY O I hA (use := none) V S e fun μ1 H1 h1 tk v r C e1 S1 x1 v1 cf => ?_
 obtain ⟨m, N⟩ := cf.ns
 refine ⟨m, N, fun h2 sb => ?_⟩
 obtain ⟨S2, x2⟩ := S1.off (h' := h2) (aE cf.own) cf.base (fun o e q _ => cR N o e q) (fun b o hb e => sb.extBut b o hb e) (fun z => by rw [cf.own] at z; exact nos z)
 have x3 : Ext noF μ H.next s.heap μ1 H1.next h2 := ((x1.any (F := (· = C))).trans x2).drop fun b z => by
  have z : b = C := z
  rw [z]; exact cf.dead
 exact hk μ1 H1 h2 tk v r e1 S2 x3 (v1.mono x2)
theorem mM (T : ck cx.okF K ca base mg mb) (B : qV prog w ca base mg cx Rm) (O : Rok Rm) (I : Snd prog w ca base cx Rm n) : ja prog w ca base cx Rm (n + 1) := by
 intro R A E s μ H Hx kd ρ env e k x Q hA V S he hk
 have bad : ai H = some (x, Hx) -> wpAny (model prog w) A (eval e env) Q E s := fun e => by exact nos e
 cases e with
 | Constant c p1 p2 => exact mH S he hk
 | Name y p => exact pu T B V S he hk
 | Attribute v a p => exact pE T I.E hA V S he hk
 | BinOp l op r p => exact sA I hA V S he hk
 | Subscript v i p => exact sq I hA V S he hk
 | IfExp t b o p => exact uI I hA V S he hk
 | UnaryOp op v p =>
  cases op with
  | Not => exact sx I.E hA V S he hk
  | USub =>
   cases q : qh v with
   | none => change (match qh v with
    | some i => k (.int (-i))
    | none => ai) H = _ at he; rw [q] at he; exact bad he
   | some i =>
    obtain ⟨p1, p2, rfl⟩ := qf q
    exact sy S he hk
  | _ => exact bad he
 | BoolOp op vs p =>
  cases op with
  | Or =>
   refine ay fun X hX => ?_
   change aa (orM (vs.map fun x => evE cx n kd ρ x ac)) k H = _ at he
   refine bC he fun m H1 e1 e2 => ?_
   refine hX ?_
   exact uH I.E hA vs s μ H m Q V S e1 (d9 fun μ1 h1 tk r S1 x1 v1 => hk μ1 H1 h1 tk m r e2 S1 x1 v1)
  | And =>
   refine ay fun X hX => ?_
   change aa (mj (vs.map fun x => evE cx n kd ρ x ac)) k H = _ at he
   refine bC he fun m H1 e1 e2 => ?_
   refine hX ?_
   exact sB I.E hA vs s μ H m Q V S e1 (d9 fun μ1 h1 tk r S1 x1 v1 => hk μ1 H1 h1 tk m r e2 S1 x1 v1)
 | Compare l ops rs p =>
  cases ops with
  | nil => exact bad he
  | cons op ops =>
   cases ops with
   | cons _ _ => exact bad he
   | nil =>
    cases rs with
    | nil => exact bad he
    | cons r rs =>
     cases rs with
     | cons _ _ => exact bad he
     | nil =>
      obtain ⟨h1, h2⟩ := mI T O I hA V S he hk
      exact wpAny_Compare1 h2 h1
 | Tuple es c p =>
  change (if few es then eV (evE cx n kd ρ) es fun vs => k (.tup vs) else ai) H = _ at he
  by_cases q : few es = true
  ·rw [if_pos q] at he; exact mD I.E hA V S q he hk
  ·rw [if_neg q] at he; exact bad he
 | List es p =>
  change (if few es then eV (evE cx n kd ρ) es fun vs => aa (newL vs) k else ai) H = _ at he
  by_cases q : few es = true
  ·rw [if_pos q] at he; exact pB I.E hA V S q he hk
  ·rw [if_neg q] at he; exact bad he
 | Dict ks vs p =>
  match ks, vs, he with
  | [], [], he => exact mG S he hk
  | [some c], [v], he =>
   change (if kE c then evE cx n kd ρ v fun _ => k .junk else ai) H = _ at he
   by_cases q : kE c = true
   ·rw [if_pos q] at he
    obtain ⟨y, p1, p2, rfl⟩ := nG q
    exact mF I.E hA V S he hk
   ·rw [if_neg q] at he; exact bad he
  | [], _ :: _, he => exact bad he
  | [some _], [], he => exact bad he
  | [some _], _ :: _ :: _, he => exact bad he
  | [none], _, he => exact bad he
  | none :: _ :: _, _, he => exact bad he
  | some _ :: _ :: _, _, he => exact bad he
 | Call f args kws p =>
  change (if few args && kws.isEmpty then (match aT f with
    | some fn => if kd fn = some .globalImplicit then (match cx.tab fn with
      | some g => eV (evE cx n kd ρ) args fun vs => aa (g vs) k
      | none => if fn = ao then (match eh args with
        | some (a, t) => if t = dL /\ kd t = some .globalImplicit /\ cx.tab t = none then evE cx n kd ρ a fun v => eB v (k (.bool true)) else ai
        | none => ai)
       else if cK fn then eV (evE cx n kd ρ) args fun vs => aa (aG fn vs) k else ai)
     else ai
    | none => (match cL f with
     | some (o, m, apos) => if bc o && apos.endLine == p.line then evE cx n kd ρ o fun ov => aa (eO m ov) fun _ => (match fC m args with
      | some a => evE cx n kd ρ a fun v => aa (aM m ov [v, .fz []]) k
      | none => eV (evE cx n kd ρ) args fun vs => aa (aM m ov vs) k) else ai
     | none => ai)) else ai) H = _ at he
  by_cases hf : (few args && kws.isEmpty) = true
  ·rw [if_pos hf] at he
   refine dA hf fun hf2 hk0 => ?_
   obtain rfl := List.isEmpty_iff.mp hk0
   cases qn : aT f with
   | some fn =>
    rw [qn] at he
    obtain ⟨fp, rfl⟩ := bx qn
    exact pC T B I.E hA V S hf2 he hk
   | none =>
    rw [qn] at he
    cases qa : cL f with
    | none =>
     change (match cL f with
      | some (o, m, apos) => if bc o && apos.endLine == p.line then evE cx n kd ρ o fun ov => aa (eO m ov) fun _ => (match fC m args with
       | some a => evE cx n kd ρ a fun v => aa (aM m ov [v, .fz []]) k
       | none => eV (evE cx n kd ρ) args fun vs => aa (aM m ov vs) k) else ai
      | none => ai) H = _ at he
     rw [qa] at he; exact bad he
    | some r =>
     obtain ⟨o, m, ap⟩ := r
     obtain rfl := fL qa
     change (if bc o && ap.endLine == p.line then evE cx n kd ρ o fun ov => aa (eO m ov) fun _ => (match fC m args with
      | some a => evE cx n kd ρ a fun v => aa (aM m ov [v, .fz []]) k
      | none => eV (evE cx n kd ρ) args fun vs => aa (aM m ov vs) k) else ai) H = _ at he
     by_cases hq : (bc o && ap.endLine == p.line) = true
     ·rw [if_pos hq] at he; exact pA T I.E hA V S hf2 hq he hk
     ·rw [if_neg hq] at he; exact bad he
  ·rw [if_neg hf] at he; exact bad he
 | ListComp elt gens sc pos =>
  match gens, he with
  | [], he => exact bad he
  | ⟨_, _, _, _⟩ :: _ :: _, he => exact bad he
  | [⟨t, iter, ifs, a⟩], he =>
   cases qn : aT t with
   | none =>
    change (match aT t with
     | some x => if a == 0 && (ci sc kd x && !cX iter) then
       aW ρ <| evI cx n kd ρ iter fun src => aa (aH src.1 (bK cx n kd ρ sc x ifs elt) src.2 0) fun ys => if aC ys then k (.fz ys) else ai
      else ai
     | none => ai) H = _ at he
    rw [qn] at he; exact bad he
   | some y =>
    obtain ⟨py, rfl⟩ := bx qn
    by_cases z : a = 0
    ·subst z
     exact io O I hA V S he hk
    ·change (if a == 0 && (ci sc kd y && !cX iter) then
       aW ρ <| evI cx n kd ρ iter fun src => aa (aH src.1 (bK cx n kd ρ sc y ifs elt) src.2 0) fun ys => if aC ys then k (.fz ys) else ai
      else ai) H = _ at he
     rw [if_neg (by simp [z])] at he
     exact bad he
 | _ => exact bad he
end
section
variable {okF : Nat -> Str -> Bool} {prog : Program} {w : World} {K : Frag} {ca : Nat -> Addr} {base : Heap} {mg mb : Str -> Option Value} {μ μ1 : Mp} {H H1 H' Hx : MH} {h h' h1 : Heap} {A : Around} {E : Value -> Shared -> Prop} {s : Shared} {kd : Kd} {ρ : Rho} {env : Env}
variable {cx : Cx} {Rm : Around -> Prop} {n : Nat} {R : Type} {x : R}
theorem pn {a : Expr} (n1 : ∀ e' p, a ≠ .Starred e' p) : [a].all bj = true := by
 show (bj a && true) = true
 cases q : bj a with
 | true => rfl
 | false => obtain ⟨e', p, rfl⟩ := lF q; exact absurd rfl (n1 _ _)
theorem jq {e a : Expr} {f : Str} (h : eS e = some (f, a)) : ∃ fp p, e = .Call (.Name f fp) [a] [] p := by
 cases e with
 | Call g args kws p =>
  change (match aT g, args, kws with
   | some x, [a], [] => some (x, a)
   | _, _, _ => none) = _ at h
  cases q : aT g with
  | none => rw [q] at h; exact nos h
  | some y =>
   rw [q] at h
   obtain ⟨fp, rfl⟩ := bx q
   match args, kws, h with
   | [a'], [], h => obtain ⟨rfl, rfl⟩ := jb h; exact ⟨fp, p, rfl⟩
   | [], _, h => exact nos h
   | [_], _ :: _, h => exact nos h
   | _ :: _ :: _, _, h => exact nos h
 | _ => exact nos h
theorem mJ (I : Snd prog w ca base cx Rm n) : yC prog w ca base cx Rm (n + 1) := by
 intro R A E s μ H Hx kd ρ env e k x Q hA V S he hk
 cases e with
 | List es p =>
  change (if few es then eV (evE cx n kd ρ) es fun vs => k (.fz vs) else ai) H = _ at he
  by_cases q : few es = true
  ·rw [if_pos q] at he; exact uJ I.E hA V S q he hk
  ·rw [if_neg q] at he; exact nos he
 | _ => exact I.E A E s μ H Hx kd ρ env _ k x Q hA V S he hk
theorem mE (T : ck okF K ca base mg mb) (B : qV prog w ca base mg cx Rm) (I : ja prog w ca base cx Rm n) (hA : Rm A) {fp p : Pos} {a : Expr} {k : Src × Nat -> M R} {Q : Value -> Shared -> Prop} (V : aP kd ρ env μ H.next s.heap) (S : Sim prog w ca base μ H s.heap)
  (hg : kd aQ = some .globalImplicit) (ht : cx.tab aQ = none)
  (e : evE cx n kd ρ a (fun v => pe v k) H = some (x, Hx)) (hk : Ki prog w ca base μ H s k x Hx Q) : wpAny (model prog w) A (eval (.Call (.Name aQ fp) [a] [] p) env) (fun xv s₁ => wpAny (model prog w) A (pyIter xv) Q E s₁) E s := by
 have hm : aQ ∈ [f0, fZ, dL, a9, bX, aQ, ao] := by decide +kernel
 refine Call_ (bI T S V hg (B.free _ hm ht) hm ej ?_)
 have n1 := bJ e
 have hs : [a].all bj = true := pn n1
 refine cI (P := fun h => ∀ b o, base.get? b = some o -> h.get? b = some o) hs (fun h _ => cJ ej hm _ h) ?_
 rw [bv n1]
 refine spliced_cons (I A E s μ H Hx kd ρ env a _ x _ hA V S e fun μ1 H1 h1 tk m r1 e1 S1 x1 v1 => ?_)
 refine spliced_nil ⟨S1.keeps, ?_⟩
 cases m with
 | int i =>
  change (if decide (0 <= i) && decide (i <= cH) then k (.rng i.toNat, i.toNat + 1) else ai) H1 = _ at e1
  by_cases q : (decide (0 <= i) && decide (i <= cH)) = true
  ·rw [if_pos q] at e1
   refine dA q fun q1 q2 => ?_
   have q1 := of_decide_eq_true q1
   have q2 := of_decide_eq_true q2
   unfold cH at q2
   obtain ⟨t, rfl⟩ := v1.view
   refine call_range_1 ?_
   refine PySem.wpAny_pyIter_range (IsRange.new _ _ _ _ _ _ _) (small_one (by omega) (by exact clt (a := 0) (b := 4611686018427387904) (iE 0 0 0 0 (.a (.n 0) (.n 1)) (.n 4611686018427387904) rfl)) (by omega) (by omega)) ?_
   rw [rangeSize_one]
   have en : (if (0 : Int) < i then i - 0 else 0) = (i.toNat : Int) := by split <;> omega
   rw [en]
   generalize hob : ({ cls := .type "range", data := .fields #[.int 0 tk, .int i t, .int 1 (tk + 1)] } : Obj) = ob
   obtain ⟨S2, x2⟩ := S1.grow (h' := (h1.push ob).push { cls := .type "range_iterator", data := .fields #[rawInt 0, rawInt (i.toNat : Int), rawInt 1] }) (fun b o e => Heap.get?_push_of_some _ (Heap.get?_push_of_some _ e))
   have dead : h1.get? (h1.push ob).objs.size = none := a8 (by rw [Heap.size_push]; exact iE _ 0 0 0 .x (.a .x (.n 1)) rfl)
   have it : ((h1.push ob).push { cls := .type "range_iterator", data := .fields #[rawInt 0, rawInt (i.toNat : Int), rawInt 1] }).get? (h1.push ob).objs.size = some { cls := .type "range_iterator", data := .fields #[rawInt 0, rawInt (i.toNat : Int), rawInt 1] } := Heap.get?_push_size _ rfl
   refine hk μ1 H1 _ _ _ _ _ e1 S2 (x1.trans x2) (x1.dead S1 dead) ⟨S1.dead dead, S1.base_none dead, _, it, by rintro ⟨_, _, z⟩; cases z⟩ (.rng i.toNat 0 ?_)
   show _ = some _
   rw [it, show ((i.toNat : Int) - ((0 : Nat) : Int)) = (i.toNat : Int) by omega]
   rfl
  ·rw [if_neg q] at e1; exact nos e1
 | _ => exact nos e1
theorem mL (T : ck okF K ca base mg mb) (B : qV prog w ca base mg cx Rm) (I : Snd prog w ca base cx Rm n) : yD prog w ca base cx Rm (n + 1) := by
 intro R A E s μ H Hx kd ρ env e k x Q hA V S he hk
 have gX : (evE cx n kd ρ e fun v => aa (bw v) k) H = some (x, Hx) -> wpAny (model prog w) A (eval e env) (fun xv s₁ => wpAny (model prog w) A (pyIter xv) Q E s₁) E s := fun e1 =>
  I.E A E s μ H Hx kd ρ env e _ x _ hA V S e1 fun μ1 H1 h1 tk m r1 e1 S1 x1 v1 => by
   refine ay fun X hX => ?_
   obtain ⟨⟨src, f⟩, H2, e2, e3⟩ := cj e1
   refine hX ?_
   refine uO (s := { s with heap := h1, toks := tk }) S1 v1 e2 fun q h2 it S2 x2 dead F2 I2 => ?_
   subst q
   exact hk μ1 H2 h2 tk it src f e3 S2 (x1.trans x2) (x1.dead S1 dead) F2 I2
 change (match eS e with
  | some (f, a) => if f = aQ /\ kd f = some NameKind.globalImplicit /\ cx.tab f = none then evE cx n kd ρ a fun v => pe v k
   else evE cx n kd ρ e fun v => aa (bw v) k
  | none => evE cx n kd ρ e fun v => aa (bw v) k) H = _ at he
 cases qr : eS e with
 | none => rw [qr] at he; exact gX he
 | some r =>
  rw [qr] at he
  obtain ⟨f, a⟩ := r
  change (if f = aQ /\ kd f = some NameKind.globalImplicit /\ cx.tab f = none then evE cx n kd ρ a fun v => pe v k
   else evE cx n kd ρ e fun v => aa (bw v) k) H = _ at he
  by_cases q : f = aQ /\ kd f = some .globalImplicit /\ cx.tab f = none
  ·rw [if_pos q] at he
   obtain ⟨fp, p, rfl⟩ := jq qr
   obtain ⟨rfl, q2, q3⟩ := q
   exact mE T B I.E hA V S q2 q3 he hk
  ·rw [if_neg q] at he
   exact gX he
theorem mN (T : ck cx.okF K ca base mg mb) (B : qV prog w ca base mg cx Rm) (O : Rok Rm) (I : Snd prog w ca base cx Rm n) (I' : ∀ m, n = m + 1 -> Snd prog w ca base cx Rm m) : xC prog w ca base cx Rm (n + 1) := by
 intro A E s μ H H1 kd ρ env e b Q hA V S he h
 have gX : (isTrue e env (eval e env) = (do let v <- eval e env; standAt e.pos; holding [v] (truthy v))) -> evE cx n kd ρ e ae H = some (b, H1) -> wpAny (model prog w) A (isTrue e env (eval e env)) Q E s := fun hq e1 =>
  isTrue_plain (I.E A E s μ H H1 kd ρ env e ae b _ hA V S e1 fun μ1 H2 h1 tk m r1 e1 S1 x1 v1 => dN (s := { s with heap := h1, toks := tk }) v1 e1 fun q => by
   subst q
   exact h μ1 h1 tk S1 x1) hq
 cases e with
 | UnaryOp op v p =>
  cases op with
  | Not =>
   refine ay fun X hX => ?_
   change aa (evB cx n kd ρ v) (fun b => ac (!b)) H = _ at he
   refine bC he fun c H2 e1 e2 => ?_
   obtain ⟨rfl, rfl⟩ := jb e2
   refine hX ?_
   exact isTrue_not (I.B A E s μ H H1 kd ρ env v c _ hA V S e1 fun μ1 h1 tk S1 x1 => h μ1 h1 tk S1 x1)
  | _ => exact gX rfl he
 | BoolOp op vs p =>
  cases op with
  | Or =>
   have he : orB (vs.map fun x => evB cx n kd ρ x) H = some (b, H1) := he
   have main : ∀ (vs : List Expr) (s : Shared) (μ : Mp) (H : MH), aP kd ρ env μ H.next s.heap -> Sim prog w ca base μ H s.heap -> orB (vs.map fun x => evB cx n kd ρ x) H = some (b, H1) ->
     (∀ μ1 h1 tk, Sim prog w ca base μ1 H1 h1 -> Ext noF μ H.next s.heap μ1 H1.next h1 -> Q b { s with heap := h1, toks := tk }) -> ∀ whole, wpAny (model prog w) A (isTrue (.BoolOp .Or vs p) env whole) Q E s := by
    intro vs
    induction vs with
    | nil =>
     intro s μ H V S he h whole
     refine ay fun X hX => ?_
     obtain ⟨rfl, rfl⟩ := jb he
     refine hX ?_
     exact isTrue_or_nil (h μ s.heap s.toks S Ext.refl)
    | cons v vs ih =>
     intro s μ H V S he h whole
     have he : aa (evB cx n kd ρ v) (fun c => if c then ac true else orB (vs.map fun x => evB cx n kd ρ x)) H = some (b, H1) := he
     refine ay fun X hX => ?_
     refine bC he fun c H2 e1 e2 => ?_
     refine hX ?_
     refine isTrue_or (I.B A E s μ H H2 kd ρ env v c _ hA V S e1 fun μ1 h1 tk S1 x1 => ?_)
     cases c with
     | true => obtain ⟨rfl, rfl⟩ := jb e2; exact h μ1 h1 tk S1 x1
     | false => exact ih { s with heap := h1, toks := tk } μ1 H2 (V.mono x1) S1 e2 (fun μ2 h2 tk2 S2 x2 => h μ2 h2 tk2 S2 (x1.trans x2)) whole
   exact main vs s μ H V S he h _
  | And =>
   have he : bq (vs.map fun x => evB cx n kd ρ x) H = some (b, H1) := he
   have main : ∀ (vs : List Expr) (s : Shared) (μ : Mp) (H : MH), aP kd ρ env μ H.next s.heap -> Sim prog w ca base μ H s.heap -> bq (vs.map fun x => evB cx n kd ρ x) H = some (b, H1) ->
     (∀ μ1 h1 tk, Sim prog w ca base μ1 H1 h1 -> Ext noF μ H.next s.heap μ1 H1.next h1 -> Q b { s with heap := h1, toks := tk }) -> ∀ whole, wpAny (model prog w) A (isTrue (.BoolOp .And vs p) env whole) Q E s := by
    intro vs
    induction vs with
    | nil =>
     intro s μ H V S he h whole
     refine ay fun X hX => ?_
     obtain ⟨rfl, rfl⟩ := jb he
     refine hX ?_
     exact isTrue_and_nil (h μ s.heap s.toks S Ext.refl)
    | cons v vs ih =>
     intro s μ H V S he h whole
     have he : aa (evB cx n kd ρ v) (fun c => if c then bq (vs.map fun x => evB cx n kd ρ x) else ac false) H = some (b, H1) := he
     refine ay fun X hX => ?_
     refine bC he fun c H2 e1 e2 => ?_
     refine hX ?_
     refine isTrue_and (I.B A E s μ H H2 kd ρ env v c _ hA V S e1 fun μ1 h1 tk S1 x1 => ?_)
     cases c with
     | false => obtain ⟨rfl, rfl⟩ := jb e2; exact h μ1 h1 tk S1 x1
     | true => exact ih { s with heap := h1, toks := tk } μ1 H2 (V.mono x1) S1 e2 (fun μ2 h2 tk2 S2 x2 => h μ2 h2 tk2 S2 (x1.trans x2)) whole
   exact main vs s μ H V S he h _
 | IfExp _ _ _ _ => exact nos he
 | Compare l ops rs p =>
  have he : evE cx n kd ρ (.Compare l ops rs p) ae H = some (b, H1) := he
  cases n with
  | zero => exact nos he
  | succ n =>
  cases ops with
  | nil => exact nos he
  | cons op ops =>
   cases ops with
   | cons _ _ => exact nos he
   | nil =>
    cases rs with
    | nil => exact nos he
    | cons r rs =>
     cases rs with
     | cons _ _ => exact nos he
     | nil =>
      obtain ⟨h1, h2⟩ := mI (Q := fun c s₃ => wpAny (model prog w) A (truthy c) Q E s₃) (E := E) T O (I' n rfl) hA V S he fun μ1 H2 h1 tk m r1 e1 S1 x1 v1 => dN (s := { s with heap := h1, toks := tk }) v1 e1 fun q => by
       subst q
       exact h μ1 h1 tk S1 x1
      exact wpAny_isTrue_Compare1 h2 h1
 | _ => exact gX rfl he
theorem pq : Snd prog w ca base cx Rm 0 := by
 constructor
 ·intro R A E s μ H Hx kd ρ env e k x Q hA V S he hk; exact nos he
 ·intro R A E s μ H Hx kd ρ env e k x Q hA V S he hk; exact nos he
 ·intro R A E s μ H Hx kd ρ env e k x Q hA V S he hk; exact nos he
 ·intro A E s μ H H1 kd ρ env e b Q hA V S he h; exact nos he
theorem sC (T : ck cx.okF K ca base mg mb) (B : qV prog w ca base mg cx Rm) (O : Rok Rm) : ∀ n, Snd prog w ca base cx Rm n /\ ∀ m, n = m + 1 -> Snd prog w ca base cx Rm m := by
 intro n
 induction n with
 | zero => exact ⟨pq, fun m e => by cases e⟩
 | succ n ih =>
  obtain ⟨I, I'⟩ := ih
  exact ⟨⟨mM T B O I, mJ I, mL T B I, mN T B O I I'⟩, fun m e => by cases e; exact I⟩
end
structure jU (base : Heap) (kd : Kd) (env : Env) : Prop where
 lbase : base.get? env.locals = none
 cbase : ∀ z c, kd z = some .cell -> env.cells.lookup z = some c -> base.get? c = none
 apart : ∀ z z' c, kd z = some .cell -> kd z' = some .cell -> env.cells.lookup z = some c -> env.cells.lookup z' = some c -> z = z'
 lc : ∀ z c, kd z = some .cell -> env.cells.lookup z = some c -> c ≠ env.locals
 nofree : ∀ z, kd z ≠ some .free
noncomputable def Fof (kd : Kd) (env : Env) (b : Addr) : Prop := b = env.locals \/ ∃ z, kd z = some .cell /\ env.cells.lookup z = some b
inductive FlR (μ : Mp) (n : Nat) (h : Heap) : Fl -> Flow -> Prop
 | next : FlR μ n h .next .next
 | cont : FlR μ n h .cont .cont
 | ret (v : MV) (r : Value) : av μ n h v r -> FlR μ n h (.ret v) (.ret r)
section
variable {okF : Nat -> Str -> Bool} {prog : Program} {w : World} {K : Frag} {ca : Nat -> Addr} {base : Heap} {mg mb : Str -> Option Value} {μ μ1 : Mp} {H H1 H' Hx : MH} {h h' h1 : Heap} {A : Around} {E : Value -> Shared -> Prop} {s : Shared} {kd : Kd} {ρ ρ' : Rho} {env : Env}
variable {cx : Cx} {Rm : Around -> Prop} {n : Nat} {R : Type} {x : R}
theorem iP {h : Heap} {c : Addr} {v : Option Value} (N : h.IsCell c v) : ∀ o, h.get? c = some o -> iG o -> False := by
 intro o e q
 obtain ⟨o', e', d⟩ := N
 rw [e] at e'; cases e'
 obtain ⟨_, _, z⟩ := q
 rw [d] at z; cases z
theorem eU (G : jU base kd env) (V : aP kd ρ env μ H.next s.heap) (S : Sim prog w ca base μ H s.heap) {y : Str} {v : MV} {r : Value} {Q : Unit -> Shared -> Prop} (hy : aV kd y = true) (hv : av μ H.next s.heap v r)
  (hq : ∀ h1 tk, Sim prog w ca base μ H h1 -> Ext (Fof kd env) μ H.next s.heap μ H.next h1 -> aP kd ((y, v) :: ρ) env μ H.next h1 -> Q () { s with heap := h1, toks := tk }) : wpAny (model prog w) A (storeName env y r) Q E s := by
 have hk : kd y = some .local \/ kd y = some .cell := by
  unfold aV at hy
  simpa using hy
 rcases hk with hk | hk
 ·obtain ⟨m, N, L⟩ := V.loc
  refine wpAny_storeName_local ((V.kinds y).trans hk) N (fun h1 N1 sb => ?_) (by rw [V.fn]; rfl)
  obtain ⟨S1, x1⟩ := S.off (h' := h1) (aE V.lown) G.lbase (fun o e q _ => cR N o e q) (fun b o hb e => sb.extBut b o hb e) (fun z => by rw [V.lown] at z; exact nos z)
  refine hq h1 _ S1 (x1.weak fun b z => .inl z) ⟨V.fn, V.gl, V.bl, V.kinds, V.dbg, V.cld, V.lown, ⟨_, N1, fun z u l k => ?_⟩, fun z k => ?_⟩
  ·by_cases q : z = y
   ·subst q
    unfold ad at l
    rw [if_pos rfl] at l
    obtain rfl := Option.some.inj l
    exact ⟨r, if_pos rfl, hv.mono x1⟩
   ·unfold ad at l
    rw [if_neg q] at l
    obtain ⟨r', a, b⟩ := L z u l k
    exact ⟨r', (if_neg q).trans a, b.mono x1⟩
  ·have k' : kd z = some .cell := by
    rcases k with k | k
    ·exact k
    ·exact absurd k (G.nofree z)
   obtain ⟨c, c1, c2, o, c3, c4⟩ := V.cel z k
   refine ⟨c, c1, c2, o, fH c3 fun o e => sb.extBut c o (G.lc z c k' c1) e, fun u l => ?_⟩
   have q : z ≠ y := fun q => by rw [q, hk] at k'; cases k'
   unfold ad at l
   rw [if_neg q] at l
   obtain ⟨r', a, b⟩ := c4 u l
   exact ⟨r', a, b.mono x1⟩
 ·obtain ⟨c, c1, c2, o, c3, c4⟩ := V.cel y (.inl hk)
  refine wpAny_storeName_cell V.fn ((V.kinds y).trans hk) c1 c3 (fun h1 N1 sb => ?_)
  obtain ⟨S1, x1⟩ := S.off (h' := h1) (aE c2) (G.cbase y c hk c1) (fun o e q _ => iP c3 o e q) (fun b o hb e => sb.extBut b o hb e) (fun z => by rw [c2] at z; exact nos z)
  refine hq h1 s.toks S1 (x1.weak fun b z => .inr ⟨y, hk, by have z : b = c := z; rw [z]; exact c1⟩) ⟨V.fn, V.gl, V.bl, V.kinds, V.dbg, V.cld, V.lown, ?_, fun z k => ?_⟩
  ·obtain ⟨m, N, L⟩ := V.loc
   refine ⟨m, N.at fun o e => sb.extBut _ o (Ne.symm (G.lc y c hk c1)) e, fun z u l k => ?_⟩
   have q : z ≠ y := fun q => by rw [q, hk] at k; cases k
   unfold ad at l
   rw [if_neg q] at l
   obtain ⟨r', a, b⟩ := L z u l k
   exact ⟨r', a, b.mono x1⟩
  ·have k' : kd z = some .cell := by
    rcases k with k | k
    ·exact k
    ·exact absurd k (G.nofree z)
   by_cases q : z = y
   ·subst q
    refine ⟨c, c1, c2, some r, N1, fun u l => ?_⟩
    unfold ad at l
    rw [if_pos rfl] at l
    obtain rfl := Option.some.inj l
    exact ⟨r, rfl, hv.mono x1⟩
   ·obtain ⟨c', d1, d2, o', d3, d4⟩ := V.cel z k
    refine ⟨c', d1, d2, o', fH d3 fun o e => sb.extBut c' o (fun q' => q (G.apart z y c' k' hk d1 (by rw [q']; exact c1))) e, fun u l => ?_⟩
    unfold ad at l
    rw [if_neg q] at l
    obtain ⟨r', a, b⟩ := d4 u l
    exact ⟨r', a, b.mono x1⟩
noncomputable def Ka (prog : Program) (w : World) (ca : Nat -> Addr) (base : Heap) (kd : Kd) (env : Env) (μ : Mp) (H : MH) (s : Shared) (ρ' : Rho) (H' : MH) (Q : Unit -> Shared -> Prop) : Prop :=
 ∀ μ1 h1 tk, Sim prog w ca base μ1 H' h1 -> Ext (Fof kd env) μ H.next s.heap μ1 H'.next h1 -> aP kd ρ' env μ1 H'.next h1 -> Q () { s with heap := h1, toks := tk }
theorem sH {o v : MV} {a : Str} (e : ar okF o a v H = some ((), H')) : ∃ c k fs, o = .ins c k /\ H.ins c k = some fs /\ okF c a = true /\ fs.length <= 500 /\ H' = H.putI c k (putS a v fs) := by
 refine obC e fun p q e => obC e fun fs e1 e => itC e fun hc e => dA hc fun c1 c2 => ?_
 cases e
 exact ⟨p.1, p.2, fs, kP q, e1, c1, of_decide_eq_true c2, rfl⟩
theorem kj (T : ck okF K ca base mg mb) (S : Sim prog w ca base μ H s.heap) {o m : MV} {vo v : Value} {a : Str} {Q : Unit -> Shared -> Prop} (ro : av μ H.next s.heap o vo) (rv : av μ H.next s.heap m v) (e : ar okF o a m H = some ((), H'))
  (h : ∀ h' tk, Sim prog w ca base μ H' h' -> Ext noF μ H.next s.heap μ H'.next h' -> Q () { s with heap := h', toks := tk }) : wpAny (model prog w) A (setAttr vo a v) Q E s := by
 obtain ⟨c, k, fs, rfl, e1, ok, len, rfl⟩ := sH e
 obtain ⟨rfl, _⟩ := ro.view
 exact sR T S e1 ok len rv h
theorem dF {vs keep : List Value} {Q : Unit -> Shared -> Prop} (h : Q () s) : wpAny (model prog w) A (release vs keep) Q E s := fun Γ p _ => by
 rw [Sem.wp_release]; exact h
theorem hV (T : ck cx.okF K ca base mg mb) (I : ja prog w ca base cx Rm n) (hA : Rm A) {o : Expr} {a : Str} {p : Pos} {v : MV} {r : Value} {Q : Unit -> Shared -> Prop} (V : aP kd ρ env μ H.next s.heap) (S : Sim prog w ca base μ H s.heap) (hv : av μ H.next s.heap v r)
  {k : Unit -> M R} {Hx : MH} (e : evE cx n kd ρ o (fun ov => aa (ar cx.okF ov a v) k) H = some (x, Hx))
  (hk : ∀ μ1 H1 h1 tk, k () H1 = some (x, Hx) -> Sim prog w ca base μ1 H1 h1 -> Ext noF μ H.next s.heap μ1 H1.next h1 -> Q () { s with heap := h1, toks := tk }) : wpAny (model prog w) A (assign (.Attribute o a p) env r) Q E s := by
 show wpAny _ _ (do
  let ov <- holding [r] (eval o env)
  standAt p.atName
  holding [r, ov] (setAttr ov a r)
  release [r, ov] []) _ _ _
 refine wpAny_bind (wpAny_holding (I A E s μ H Hx kd ρ env o _ x _ hA V S e fun μ1 H1 h1 tk mo ro e1 S1 x1 v1 => ?_))
 refine bC e1 fun u H2 e2 e3 => ?_
 refine wpAny_bind (wpAny_standAt (wpAny_bind (wpAny_holding (kj (s := { s with heap := h1, toks := tk }) T S1 v1 (hv.mono x1) e2 fun h2 tk2 S2 x2 => ?_))))
 exact dF (hk μ1 H2 h2 tk2 e3 S2 (x1.trans x2))
theorem lU (o i : Expr) (p : Pos) (env : Env) (r : Value) : ∃ f : Value -> Value -> List Value, assign (.Subscript o i p) env r = (do
  let ov <- holding [r] (eval o env)
  let iv <- holding [r, ov] (eval i env)
  standAt p
  holding [r, ov, iv] (setItem ov iv r)
  release (f ov iv) []) := ⟨_, rfl⟩
theorem tH (I : ja prog w ca base cx Rm n) (hA : Rm A) {o i : Expr} {p : Pos} {v : MV} {r : Value} {Q : Unit -> Shared -> Prop} (V : aP kd ρ env μ H.next s.heap) (S : Sim prog w ca base μ H s.heap) (hv : av μ H.next s.heap v r)
  {k : Unit -> M R} {Hx : MH} (e : evE cx n kd ρ o (fun ov => evE cx n kd ρ i fun iv => aa (be ov iv v) k) H = some (x, Hx))
  (hk : ∀ μ1 H1 h1 tk, k () H1 = some (x, Hx) -> Sim prog w ca base μ1 H1 h1 -> Ext noF μ H.next s.heap μ1 H1.next h1 -> Q () { s with heap := h1, toks := tk }) : wpAny (model prog w) A (assign (.Subscript o i p) env r) Q E s := by
 obtain ⟨f, ef⟩ := lU o i p env r
 rw [ef]
 refine wpAny_bind (wpAny_holding (I A E s μ H Hx kd ρ env o _ x _ hA V S e fun μ1 H1 h1 tk mo ro e1 S1 x1 v1 => ?_))
 refine wpAny_bind (wpAny_holding (I A E _ μ1 H1 Hx kd ρ env i _ x _ hA (V.mono x1) S1 e1 fun μ2 H2 h2 tk2 mi ri e2 S2 x2 v2 => ?_))
 refine bC e2 fun u H3 e3 e4 => ?_
 refine wpAny_bind (wpAny_standAt (wpAny_bind (wpAny_holding (lE (s := { s with heap := h2, toks := tk2 }) S2 (v1.mono x2) v2 ((hv.mono x1).mono x2) e3 fun h3 tk3 S3 x3 => ?_))))
 exact dF (hk μ2 H3 h3 tk3 e4 S3 (x1.trans (x2.trans x3)))
end
theorem Ext.only {F G : Addr -> Prop} {μ μ' : Mp} {n n' : Nat} {h h' : Heap} (x : Ext G μ n h μ' n' h') (hf : ∀ b, G b -> F b \/ h.get? b = none) : Ext F μ n h μ' n' h' :=
 ⟨x.le, x.at_, x.own, fun b o hb q e => x.keep b o hb (fun g => by
  rcases hf b g with f | f
  ·exact q f
  ·rw [f] at e; exact nos e) e⟩
section
variable {okF : Nat -> Str -> Bool} {prog : Program} {w : World} {K : Frag} {ca : Nat -> Addr} {base : Heap} {mg mb : Str -> Option Value} {μ μ1 : Mp} {H H1 H' Hx : MH} {h h' h1 : Heap} {A : Around} {E : Value -> Shared -> Prop} {s : Shared} {kd : Kd} {ρ ρ' : Rho} {env : Env}
variable {cx : Cx} {Rm : Around -> Prop} {n : Nat} {R : Type} {x : R}
theorem Ka.next {μ1 : Mp} {H1 : MH} {h1 : Heap} {tk : Nat} {Q : Unit -> Shared -> Prop} (hk : Ka prog w ca base kd env μ H s ρ' H' Q) (x1 : Ext (Fof kd env) μ H.next s.heap μ1 H1.next h1) : Ka prog w ca base kd env μ1 H1 { s with heap := h1, toks := tk } ρ' H' Q :=
 fun μ2 h2 tk2 S2 x2 V2 => hk μ2 h2 tk2 S2 (x1.trans x2) V2
theorem kN (G : jU base kd env) (V : aP kd ρ env μ H.next s.heap) (S : Sim prog w ca base μ H s.heap) {y : Str} {p : Pos} {v : MV} {r : Value} {Q : Unit -> Shared -> Prop} (hy : aV kd y = true) (hv : av μ H.next s.heap v r)
  (hk : Ka prog w ca base kd env μ H s ((y, v) :: ρ) H Q) : wpAny (model prog w) A (assign (.Name y p) env r) Q E s := by
 show wpAny _ _ (do standAt p; bindName env y r) _ _ _
 exact wpAny_bind (wpAny_standAt (wpAny_bindName (eU G V S hy hv fun h1 tk S1 x1 V1 => hk μ h1 tk S1 x1 V1)))
theorem iQ {t : Expr} {ts : List Expr} {v : MV} {vs : List MV} (e : bk kd (t :: ts) (v :: vs) ρ = some ρ') : ∃ y p, t = .Name y p /\ aV kd y = true /\ bk kd ts vs ((y, v) :: ρ) = some ρ' := by
 change (match aT t with
  | some x => if aV kd x then bk kd ts vs ((x, v) :: ρ) else none
  | none => none) = _ at e
 cases q : aT t with
 | none => rw [q] at e; exact nos e
 | some y =>
  rw [q] at e
  obtain ⟨p, rfl⟩ := bx q
  refine itC e fun hq e => ?_
  exact ⟨y, p, rfl, hq, e⟩
theorem pD (G : jU base kd env) (ts : List Expr) : ∀ (vs : List MV) (rs : List Value) (ρ : Rho) (s : Shared) (μ : Mp) (Q : Unit -> Shared -> Prop), bk kd ts vs ρ = some ρ' -> ax μ H.next s.heap vs rs -> aP kd ρ env μ H.next s.heap -> Sim prog w ca base μ H s.heap ->
  Ka prog w ca base kd env μ H s ρ' H Q -> wpAny (model prog w) A (assignInOrder ((assignEach ts env).map (·.2)) rs) Q E s := by
 induction ts with
 | nil =>
  intro vs rs ρ s μ Q e rv V S hk
  cases vs with
  | nil => obtain rfl := rv.inil; obtain rfl := Option.some.inj e; exact wpAny_pure (hk μ s.heap s.toks S Ext.refl V)
  | cons _ _ => exact nos e
 | cons t ts ih =>
  intro vs rs ρ s μ Q e rv V S hk
  cases vs with
  | nil => exact nos e
  | cons v vs =>
   refine ay fun X hX => ?_
   obtain ⟨y, p, rfl, q, e⟩ := iQ e
   obtain ⟨r, rs, rfl, a, rv⟩ := rv.icons
   refine hX ?_
   show wpAny _ _ (do holding rs (assign (.Name y p) env r); assignInOrder ((assignEach ts env).map (·.2)) rs) _ _ _
   exact wpAny_bind (wpAny_holding (kN G V S q a fun μ1 h1 tk S1 x1 V1 => ih _ _ _ _ μ1 Q e (rv.mono x1) V1 S1 (hk.next x1)))
theorem lT (ts : List Expr) : ∀ {vs : List MV} {ρ : Rho}, bk kd ts vs ρ = some ρ' -> (assignEach ts env).length = ts.length /\ (assignEach ts env).findIdx? (·.1) = none := by
 induction ts with
 | nil => intro _ _ _; exact ⟨rfl, rfl⟩
 | cons t ts ih =>
  intro vs ρ e
  cases vs with
  | nil => exact nos e
  | cons v vs =>
   refine ay fun X hX => ?_
   obtain ⟨y, p, rfl, q, e⟩ := iQ e
   obtain ⟨a, b⟩ := ih e
   refine hX ?_
   refine ⟨?_, ?_⟩
   ·show (assignEach ts env).length + 1 = ts.length + 1
    rw [a]
   ·show List.findIdx? _ ((false, assign (.Name y p) env) :: assignEach ts env) = none
    rw [List.findIdx?_cons, b]; rfl
set_option tactic.hygienic true in
theorem d0 {v : MV} {m : Nat} {xs : List MV} (e : cC v m H = some (xs, H')) : H' = H /\ jo H v = some xs /\ xs.length = m := by
 unfold cC at e
 split at e
 ·rename_i ys q
  refine itC e fun l e => ?_
  obtain ⟨rfl, rfl⟩ := jb e
  exact ⟨rfl, q, l⟩
 ·exact nos e
theorem uB {v : MV} {k : MV -> MV -> M Rho} {r : Rho × MH} (e : un2 v k H = some r) : ∃ x y, jo H v = some [x, y] /\ k x y H = some r := by
 refine ay fun X hX => ?_
 refine bC e fun xs H2 e1 e2 => ?_
 obtain ⟨rfl, q, l⟩ := d0 e1
 refine hX ?_
 match xs, l, q, e2 with
 | [x, y], _, q, e2 => exact ⟨x, y, q, e2⟩
theorem gx {ts : List Expr} {o o' : Expr} {a a' : Str} (h : dg ts = some ((o, a), o', a')) : ∃ p1 p2, ts = [.Attribute o a p1, .Attribute o' a' p2] := by
 match ts, h with
 | [b1, b2], h =>
  change (match cL b1, cL b2 with
   | some (o, x, _), some (o', x', _) => some ((o, x), o', x')
   | _, _ => none) = _ at h
  cases q1 : cL b1 with
  | none => rw [q1] at h; exact nos h
  | some r1 =>
   cases q2 : cL b2 with
   | none => rw [q1, q2] at h; exact nos h
   | some r2 =>
    rw [q1, q2] at h
    obtain ⟨_, _, p1⟩ := r1
    obtain ⟨_, _, p2⟩ := r2
    cases h
    obtain rfl := fL q1
    obtain rfl := fL q2
    exact ⟨p1, p2, rfl⟩
 | [], h => exact nos h
 | [_], h => exact nos h
 | _ :: _ :: _ :: _, h => exact nos h
set_option tactic.hygienic true in
theorem jh (T : ck cx.okF K ca base mg mb) (O : Rok Rm) (I : ja prog w ca base cx Rm n) (hA : Rm A) (G : jU base kd env) (V : aP kd ρ env μ H.next s.heap) (S : Sim prog w ca base μ H s.heap) {t : Expr} {v : MV} {r : Value} {Q : Unit -> Shared -> Prop}
  (hv : av μ H.next s.heap v r) (e : asg cx n kd ρ t v H = some (ρ', H')) (hk : Ka prog w ca base kd env μ H s ρ' H' Q) : wpAny (model prog w) A (assign t env r) Q E s := by
 have hh := O.hd A hA
 have names : ∀ (ts : List Expr) (c : Nat) (p : Pos), (aa (cC v ts.length) fun vs => (match bk kd ts vs ρ with
   | some ρ' => ac ρ'
   | none => ai)) H = some (ρ', H') -> wpAny (model prog w) A (assign (.Tuple ts c p) env r) Q E s := by
  intro ts c p e
  refine ay fun X hX => ?_
  refine bC e fun xs H2 e1 e2 => ?_
  obtain ⟨rfl, q, l⟩ := d0 e1
  refine hX ?_
  cases b : bk kd ts xs ρ with
  | none => rw [b] at e2; exact nos e2
  | some ρ2 =>
   refine ay fun X hX => ?_
   rw [b] at e2
   obtain ⟨rfl, rfl⟩ := jb e2
   obtain ⟨p1, p2⟩ := lT (env := env) ts b
   refine hX ?_
   show wpAny _ _ (do standAt p; unpack r (assignEach ts env)) _ _ _
   refine wpAny_bind (wpAny_standAt ?_)
   unfold unpack
   rw [p1, p2, <- l]
   exact wpAny_bind (wpAny_holding (fo S hh hv q fun h1 tk rs S1 x1 v1 => pD G ts xs rs ρ _ μ Q b v1 (V.mono x1) S1 (hk.next x1.any)))
 cases t with
 | Name y p =>
  change (if aV kd y then ac ((y, v) :: ρ) else ai) H = _ at e
  by_cases q : aV kd y = true
  ·rw [if_pos q] at e; obtain ⟨rfl, rfl⟩ := jb e; exact kN G V S q hv hk
  ·rw [if_neg q] at e; exact nos e
 | Attribute o a p =>
  exact hV T I hA V S hv e fun μ1 H1 h1 tk e1 S1 x1 => by obtain ⟨rfl, rfl⟩ := jb e1; exact hk μ1 h1 tk S1 x1.any (V.mono x1)
 | Subscript o i p =>
  have gX : (evE cx n kd ρ o fun ov => evE cx n kd ρ i fun iv => aa (be ov iv v) fun _ => ac ρ) H = some (ρ', H') -> wpAny (model prog w) A (assign (.Subscript o i p) env r) Q E s := fun e =>
   tH I hA V S hv e fun μ1 H1 h1 tk e1 S1 x1 => by obtain ⟨rfl, rfl⟩ := jb e1; exact hk μ1 h1 tk S1 x1.any (V.mono x1)
  change (if (di i).isSome then ai else evE cx n kd ρ o fun ov => evE cx n kd ρ i fun iv => aa (be ov iv v) fun _ => ac ρ) H = _ at e
  by_cases z : (di i).isSome = true
  ·rw [if_pos z] at e; exact nos e
  ·rw [if_neg z] at e; exact gX e
 | Tuple ts c p =>
  cases z : dg ts with
  | none =>
   change (match dg ts with
    | some ((o, a), o', a') => un2 v fun x y => evE cx n kd ρ o fun ov => aa (ar cx.okF ov a x) fun _ => evE cx n kd ρ o' fun ov => aa (ar cx.okF ov a' y) fun _ => ac ρ
    | none => aa (cC v ts.length) fun vs => (match bk kd ts vs ρ with
     | some ρ' => ac ρ'
     | none => ai)) H = _ at e
   rw [z] at e
   exact names ts c p e
  | some r =>
   refine ay fun X hX => ?_
   obtain ⟨⟨o, a⟩, o', a'⟩ := r
   obtain ⟨p1, p2, rfl⟩ := gx z
   obtain ⟨x1, x2, q, e2⟩ := uB (show un2 v (fun x y => evE cx n kd ρ o fun ov => aa (ar cx.okF ov a x) fun _ => evE cx n kd ρ o' fun ov => aa (ar cx.okF ov a' y) fun _ => ac ρ) H = some (ρ', H') from e)
   clear e names
   refine hX ?_
   show wpAny _ _ (do standAt p; unpack r [(false, assign (.Attribute o a p1) env), (false, assign (.Attribute o' a' p2) env)]) _ _ _
   refine wpAny_bind (wpAny_standAt ?_)
   unfold unpack
   refine wpAny_bind (wpAny_holding (fo (xs := [x1, x2]) S hh hv q fun h1 tk rs S1 y1 v1 => ?_))
   cases v1 with
   | cons u1 v1 =>
   cases v1 with
   | cons u2 v1 =>
   cases v1
   rename_i r1 r2
   show wpAny _ _ (do holding [r2] (assign (.Attribute o a p1) env r1); (do holding [] (assign (.Attribute o' a' p2) env r2); pure ())) _ _ _
   refine wpAny_bind (wpAny_holding (hV T I hA (V.mono y1) S1 u1 e2 fun μ3 H3 h3 tk3 e3 S3 y3 => ?_))
   refine wpAny_bind (wpAny_holding (hV T I hA (V.mono (y1.trans y3)) S3 (u2.mono y3) e3 fun μ4 H4 h4 tk4 e4 S4 y4 => ?_))
   refine ay fun X hX => ?_
   obtain ⟨rfl, rfl⟩ := jb e4
   refine hX ?_
   exact wpAny_pure (hk μ4 h4 tk4 S4 (y1.trans (y3.trans y4)).any (V.mono (y1.trans (y3.trans y4))))
 | _ => exact nos e
end
noncomputable def Kf (prog : Program) (w : World) (ca : Nat -> Addr) (base : Heap) (kd : Kd) (env : Env) (μ : Mp) (H : MH) (s : Shared) (f : Fl) (ρ' : Rho) (H' : MH) (Q : Flow -> Shared -> Prop) : Prop :=
 ∀ μ1 h1 tk fl, Sim prog w ca base μ1 H' h1 -> Ext (Fof kd env) μ H.next s.heap μ1 H'.next h1 -> aP kd ρ' env μ1 H'.next h1 -> FlR μ1 H'.next h1 f fl -> Q fl { s with heap := h1, toks := tk }
noncomputable def xB (prog : Program) (w : World) (ca : Nat -> Addr) (base : Heap) (cx : Cx) (Rm : Around -> Prop) (n : Nat) : Prop :=
 ∀ (A : Around) (E : Value -> Shared -> Prop) (s : Shared) (μ : Mp) (H H' : MH) (kd : Kd) (ρ ρ' : Rho) (env : Env) (st : Stmt) (f : Fl) (Q : Flow -> Shared -> Prop), Rm A -> jU base kd env -> aP kd ρ env μ H.next s.heap -> Sim prog w ca base μ H s.heap ->
  evS cx n kd ρ st H = some ((f, ρ'), H') -> Kf prog w ca base kd env μ H s f ρ' H' Q -> wpAny (model prog w) A (exec st env) Q E s
noncomputable def gt (prog : Program) (w : World) (ca : Nat -> Addr) (base : Heap) (cx : Cx) (Rm : Around -> Prop) (n : Nat) : Prop :=
 ∀ (A : Around) (E : Value -> Shared -> Prop) (s : Shared) (μ : Mp) (H H' : MH) (kd : Kd) (ρ ρ' : Rho) (env : Env) (l : List Stmt) (f : Fl) (Q : Flow -> Shared -> Prop), Rm A -> jU base kd env -> aP kd ρ env μ H.next s.heap -> Sim prog w ca base μ H s.heap ->
  ie cx n kd ρ l H = some ((f, ρ'), H') -> Kf prog w ca base kd env μ H s f ρ' H' Q -> wpAny (model prog w) A (execs l env) Q E s
section
variable {okF : Nat -> Str -> Bool} {prog : Program} {w : World} {K : Frag} {ca : Nat -> Addr} {base : Heap} {mg mb : Str -> Option Value} {μ μ1 : Mp} {H H1 H' Hx : MH} {h h' h1 : Heap} {A : Around} {E : Value -> Shared -> Prop} {s : Shared} {kd : Kd} {ρ ρ' : Rho} {env : Env}
variable {cx : Cx} {Rm : Around -> Prop} {n : Nat} {f : Fl} {Q : Flow -> Shared -> Prop}
theorem Kf.go {μ1 : Mp} {H1 : MH} {h1 : Heap} {tk : Nat} (hk : Kf prog w ca base kd env μ H s f ρ' H' Q) (x1 : Ext (Fof kd env) μ H.next s.heap μ1 H1.next h1) : Kf prog w ca base kd env μ1 H1 { s with heap := h1, toks := tk } f ρ' H' Q :=
 fun μ2 h2 tk2 fl S2 x2 V2 r => hk μ2 h2 tk2 fl S2 (x1.trans x2) V2 r
theorem qp {e : Expr} {pos : Pos} {v : Value} {Q : Flow -> Shared -> Prop} (h : Q .next s) : wpAny (model prog w) A (dropValue e pos v) Q E s := by
 unfold dropValue
 split
 ·exact wpAny_pure h
 ·exact wpAny_bind (wpAny_standAt (wpAny_bind (wpAny_runValue (codeAny_builtin entry_let_go (show wpAny _ _ (ret .none) _ _ _ from wpAny_pure (wpAny_pure h))))))
 ·exact wpAny_pure h
theorem ft (h : env.scope.kind = .function) : interactive env = false := by unfold interactive; rw [h]; rfl
theorem nq {e : Expr} {t : Option Expr} {l : Nat} (h : ∀ a b c d, e ≠ .ListComp a b c d) (h2 : ∀ a b c d, e ≠ .SetComp a b c d) (h3 : ∀ a b c d p, e ≠ .DictComp a b c d p) : swapsWith e t l env = pure false := by
 cases e <;> first | rfl | exact absurd rfl (h _ _ _ _) | exact absurd rfl (h2 _ _ _ _) | exact absurd rfl (h3 _ _ _ _ _)
theorem fF {R : Type} {a : Expr} {b : List Comprehension} {c : Scope} {d : Pos} {k : MV -> M R} : evE cx n kd ρ (.SetComp a b c d) k H = none := by cases n <;> rfl
theorem eC {R : Type} {a a2 : Expr} {b : List Comprehension} {c : Scope} {d : Pos} {k : MV -> M R} : evE cx n kd ρ (.DictComp a a2 b c d) k H = none := by cases n <;> rfl
theorem sj (I : Snd prog w ca base cx Rm n) (hA : Rm A) {e : Expr} {p : Pos} (V : aP kd ρ env μ H.next s.heap) (S : Sim prog w ca base μ H s.heap) (he : evS cx (n + 1) kd ρ (.Expr e p) H = some ((f, ρ'), H')) (hk : Kf prog w ca base kd env μ H s f ρ' H' Q) :
  wpAny (model prog w) A (exec (.Expr e p) env) Q E s := by
 change (if nH e then ai else evE cx n kd ρ e fun _ => ac (Fl.next, ρ)) H = _ at he
 by_cases q : nH e = true
 ·rw [if_pos q] at he; exact nos he
 ·rw [if_neg q] at he
  have n2 : ∀ a b c d, e ≠ .SetComp a b c d := by rintro a b c d rfl; rw [fF] at he; exact nos he
  have n3 : ∀ a b c d p, e ≠ .DictComp a b c d p := by rintro a b c d p rfl; rw [eC] at he; exact nos he
  rw [exec_Expr env e p (ft V.fn) (nq (by rintro a b c d rfl; exact q rfl) n2 n3)]
  refine wpAny_bind (wpAny_standAt (wpAny_bind (I.E A E s μ H H' kd ρ env e _ _ _ hA V S he fun μ1 H1 h1 tk m r e1 S1 x1 v1 => ?_)))
  refine ay fun X hX => ?_
  obtain ⟨rfl, rfl, rfl⟩ := ju e1
  refine hX ?_
  exact qp (hk μ1 h1 tk .next S1 x1.any (V.mono x1) .next)
theorem mA (I : Snd prog w ca base cx Rm n) (hA : Rm A) {e : Expr} {p : Pos} (V : aP kd ρ env μ H.next s.heap) (S : Sim prog w ca base μ H s.heap) (he : evS cx (n + 1) kd ρ (.Return (some e) p) H = some ((f, ρ'), H')) (hk : Kf prog w ca base kd env μ H s f ρ' H' Q) :
  wpAny (model prog w) A (exec (.Return (some e) p) env) Q E s := by
 change (evE cx n kd ρ e fun v => ac (Fl.ret v, ρ)) H = _ at he
 refine wpAny_Return_some (I.E A E s μ H H' kd ρ env e _ _ _ hA V S he fun μ1 H1 h1 tk m r e1 S1 x1 v1 => ?_)
 refine ay fun X hX => ?_
 obtain ⟨rfl, rfl, rfl⟩ := ju e1
 refine hX ?_
 exact hk μ1 h1 tk (.ret r) S1 x1.any (V.mono x1) (.ret m r v1)
theorem w6 (I : Snd prog w ca base cx Rm n) (J : gt prog w ca base cx Rm n) (hA : Rm A) (G : jU base kd env) {t : Expr} {b o : List Stmt} {p : Pos} (V : aP kd ρ env μ H.next s.heap) (S : Sim prog w ca base μ H s.heap) (he : evS cx (n + 1) kd ρ (.If t b o p) H = some ((f, ρ'), H'))
  (hk : Kf prog w ca base kd env μ H s f ρ' H' Q) : wpAny (model prog w) A (exec (.If t b o p) env) Q E s := by
 refine ay fun X hX => ?_
 change aa (evB cx n kd ρ t) (fun c => if c then ie cx n kd ρ b else ie cx n kd ρ o) H = _ at he
 refine bC he fun c H1 e1 e2 => ?_
 refine hX ?_
 refine wpAny_If (I.B A E s μ H H1 kd ρ env t c _ hA V S e1 fun μ1 h1 tk S1 x1 => ?_)
 cases c with
 | true => exact J A E _ μ1 H1 H' kd ρ ρ' env b f Q hA G (V.mono x1) S1 e2 (hk.go x1.any)
 | false => exact J A E _ μ1 H1 H' kd ρ ρ' env o f Q hA G (V.mono x1) S1 e2 (hk.go x1.any)
theorem jf (T : ck cx.okF K ca base mg mb) (I : Snd prog w ca base cx Rm n) (hA : Rm A) (G : jU base kd env) {y : Str} {p1 p : Pos} {op : Operator} {v : Expr} (V : aP kd ρ env μ H.next s.heap) (S : Sim prog w ca base μ H s.heap)
  (he : evS cx (n + 1) kd ρ (.AugAssign (.Name y p1) op v p) H = some ((f, ρ'), H')) (hk : Kf prog w ca base kd env μ H s f ρ' H' Q) : wpAny (model prog w) A (exec (.AugAssign (.Name y p1) op v p) env) Q E s := by
 change (match kd y, ad ρ y with
   | some .local, some a => evE cx n kd ρ v fun b => aa (iT op a b) fun c => ac (Fl.next, (y, c) :: ρ)
   | some .cell, some a => evE cx n kd ρ v fun b => aa (iT op a b) fun c => ac (Fl.next, (y, c) :: ρ)
   | _, _ => ai) H = _ at he
 have main : ∀ (kk : NameKind) (a : MV), kd y = some kk -> (kk = .local \/ kk = .cell) -> ad ρ y = some a -> (evE cx n kd ρ v fun b => aa (iT op a b) fun c => ac (Fl.next, (y, c) :: ρ)) H = some ((f, ρ'), H') -> wpAny (model prog w) A (exec (.AugAssign (.Name y p1) op v p) env) Q E s := by
  intro kk a hkk hc hl e
  have hy : aV kd y = true := by unfold aV; rw [hkk]; rcases hc with rfl | rfl <;> rfl
  refine wpAny_AugAssign_Name (nh V hkk (hc.elim .inl fun z => .inr (.inl z)) hl fun r0 v0 => ?_)
  refine I.E A E s μ H H' kd ρ env v _ _ _ hA V S e fun μ1 H1 h1 tk m r e1 S1 x1 v1 => ?_
  refine ay fun X hX => ?_
  refine bC e1 fun c H2 e2 e3 => ?_
  refine hX ?_
  refine ry (s := { s with heap := h1, toks := tk }) S1 (v0.mono x1) v1 e2 fun μ2 h2 tk2 r2 S2 x2 v2 => ?_
  refine ay fun X hX => ?_
  obtain ⟨rfl, rfl, rfl⟩ := ju e3
  refine hX ?_
  exact eU G (V.mono (x1.trans x2)) S2 hy v2 fun h3 tk3 S3 x3 V3 => hk μ2 h3 tk3 .next S3 ((x1.trans x2).any.trans x3) V3 .next
 cases q : kd y with
 | none => rw [q] at he; exact nos he
 | some kk =>
  rw [q] at he
  cases l : ad ρ y with
  | none => rw [l] at he; cases kk <;> cases he
  | some a =>
   rw [l] at he
   cases kk with
   | «local» => exact main _ a q (.inl rfl) l he
   | cell => exact main _ a q (.inr rfl) l he
   | _ => exact nos he
theorem jg (T : ck cx.okF K ca base mg mb) (I : Snd prog w ca base cx Rm n) (hA : Rm A) {o : Expr} {a : Str} {p1 p : Pos} {op : Operator} {v : Expr} (V : aP kd ρ env μ H.next s.heap) (S : Sim prog w ca base μ H s.heap)
  (he : evS cx (n + 1) kd ρ (.AugAssign (.Attribute o a p1) op v p) H = some ((f, ρ'), H')) (hk : Kf prog w ca base kd env μ H s f ρ' H' Q) : wpAny (model prog w) A (exec (.AugAssign (.Attribute o a p1) op v p) env) Q E s := by
 change (evE cx n kd ρ o fun ov => aa (am cx.okF ov a) fun a' => evE cx n kd ρ v fun b => aa (iT op a' b) fun c => aa (ar cx.okF ov a c) fun _ => ac (Fl.next, ρ)) H = _ at he
 refine wpAny_AugAssign_AttributeAny (I.E A E s μ H H' kd ρ env o _ _ _ hA V S he fun μ1 H1 h1 tk m r e1 S1 x1 v1 => ?_)
 refine ay fun X hX => ?_
 refine bC e1 fun old H2 e2 e3 => ?_
 refine hX ?_
 refine kv (s := { s with heap := h1, toks := tk }) T S1 v1 e2 fun μ2 h2 tk2 r2 S2 x2 v2 => ?_
 refine I.E A E _ μ2 H2 H' kd ρ env v _ _ _ hA (V.mono (x1.trans x2)) S2 e3 fun μ3 H3 h3 tk3 m3 r3 e4 S3 x3 v3 => ?_
 refine ay fun X hX => ?_
 refine bC e4 fun c H4 e5 e6 => ?_
 refine hX ?_
 refine ry (s := { s with heap := h3, toks := tk3 }) S3 (v2.mono x3) v3 e5 fun μ4 h4 tk4 r4 S4 x4 v4 => ?_
 refine ay fun X hX => ?_
 refine bC e6 fun u H5 e7 e8 => ?_
 refine hX ?_
 refine kj (s := { s with heap := h4, toks := tk4 }) T S4 (((v1.mono x2).mono x3).mono x4) v4 e7 fun h5 tk5 S5 x5 => ?_
 refine ay fun X hX => ?_
 obtain ⟨rfl, rfl, rfl⟩ := ju e8
 have xx := x1.trans (x2.trans (x3.trans (x4.trans x5)))
 refine hX ?_
 exact hk μ4 h5 tk5 .next S5 xx.any (V.mono xx) .next
theorem n8 {R : Type} {elt : Expr} {gens : List Comprehension} {sc : Scope} {pos : Pos} {k : MV -> M R} {r : R × MH} (e : evE cx n kd ρ (.ListComp elt gens sc pos) k H = some r) : (∃ y py iter ifs, gens = [⟨.Name y py, iter, ifs, 0⟩]) /\ ∃ m, n = m + 1 := by
 cases n with
 | zero => exact nos e
 | succ n =>
  refine ⟨?_, n, rfl⟩
  match gens, e with
  | [], e => exact nos e
  | ⟨_, _, _, _⟩ :: _ :: _, e => exact nos e
  | [⟨t, iter, ifs, a⟩], e =>
   change (match aT t with
     | some x => if a == 0 && (ci sc kd x && !cX iter) then
       aW ρ <| evI cx n kd ρ iter fun src => aa (aH src.1 (bK cx n kd ρ sc x ifs elt) src.2 0) fun ys => if aC ys then k (.fz ys) else ai
      else ai
     | none => ai) H = _ at e
   cases qn : aT t with
   | none => rw [qn] at e; exact nos e
   | some y =>
    rw [qn] at e
    obtain ⟨py, rfl⟩ := bx qn
    by_cases z : a = 0
    ·subst z; exact ⟨y, py, iter, ifs, rfl⟩
    ·change (if a == 0 && (ci sc kd y && !cX iter) then
       aW ρ <| evI cx n kd ρ iter fun src => aa (aH src.1 (bK cx n kd ρ sc y ifs elt) src.2 0) fun ys => if aC ys then k (.fz ys) else ai
      else ai) H = _ at e
     rw [if_neg (by simp [z])] at e
     exact nos e
end
theorem jG (t v : Expr) (p : Pos) (env : Env) : exec (.Assign [t] v p) env = (do
  standAt p
  if <- swapsWith v (some t) p.line env then do
   evalThenUse v env fun r => assignAll r ((assignEach [t] env).map (·.2))
   pure .next
  else do
   let r <- eval v env
   assignStores env r (<- swappedStores [t] v env) ((assignEach [t] env).map (·.2))) := rfl
theorem uD {t v : Expr} {env : Env} (h1 : jC t = false) (h2 : gN t = none) : swappedStores [t] v env = pure none := by
 cases t with
 | Tuple _ _ _ => exact nos h2.symm
 | List es p => cases es <;> exact (Bool.false_ne_true h1.symm).elim
 | _ => rfl
theorem uC {ts : List Expr} {c : Nat} {p : Pos} {v : Expr} {env : Env} (h : gN v = none) : swappedStores [.Tuple ts c p] v env = pure none := by
 cases v <;> first | rfl | cases h
theorem sg {a b : Expr} {x y : Str} {p1 p2 p p' : Pos} {c c' : Nat} {vs : List Expr} {env : Env} : swappedStores [.Tuple [.Attribute a x p1, .Attribute b y p2] c p] (.Tuple vs c' p') env = pure none := by
 unfold swappedStores
 dsimp only
 split
 ·rfl
 ·split <;> rfl
theorem uE {x y : Str} {px py p p' : Pos} {c c' : Nat} {vs : List Expr} {env : Env} (h : ¬ (env.kindOf x = some .local /\ env.kindOf y = some .local)) : swappedStores [.Tuple [.Name x px, .Name y py] c p] (.Tuple vs c' p') env = pure none := by
 have l : ∀ f : Expr -> Option Str, (f (.Name x px) = none \/ f (.Name y py) = none) -> (([Expr.Name x px, .Name y py].filterMap f).length != 2) = true := by
  intro f q
  rw [List.filterMap_cons, List.filterMap_cons]
  rcases q with q | q <;> rw [q]
  ·cases f (.Name y py) <;> rfl
  ·cases f (.Name x px) <;> rfl
 unfold swappedStores
 dsimp only
 split
 ·rfl
 ·split
  ·rfl
  ·rw [if_pos]
   refine Bool.or_eq_true_iff.mpr (.inl (l _ ?_))
   by_cases q : env.kindOf x = some .local
   ·right
    have q2 : (env.kindOf y == some .local) = false := beq_eq_false_iff_ne.mpr fun z => h ⟨q, z⟩
    show (if (env.kindOf y == some .local && _) = true then some y else none) = none
    rw [q2]; rfl
   ·left
    have q2 : (env.kindOf x == some .local) = false := beq_eq_false_iff_ne.mpr q
    show (if (env.kindOf x == some .local && _) = true then some x else none) = none
    rw [q2]; rfl
theorem sd {x y : Str} {px py p p' : Pos} {c c' : Nat} {a b : Expr} {env : Env} (q1 : env.kindOf x = some .local) (q2 : env.kindOf y = some .local) (h1 : x ≠ y) (h2 : [a, b].all (foldedForSure 8) = false) (h3 : [a, b].all (constantsAlone 8) = false) :
  swappedStores [.Tuple [.Name x px, .Name y py] c p] (.Tuple [a, b] c' p') env = pure none \/ swappedStores [.Tuple [.Name x px, .Name y py] c p] (.Tuple [a, b] c' p') env = pure (some [x, y]) := by
 have e2 : [x, y].eraseDups = [x, y] := by
  simp [List.eraseDups_cons, Ne.symm h1]
 have l : ∀ f : Expr -> Option Str, f (.Name x px) = some x -> (f (.Name y py) = some y \/ f (.Name y py) = none) -> [Expr.Name x px, .Name y py].filterMap f = [x, y] \/ [Expr.Name x px, .Name y py].filterMap f = [x] := by
  intro f q q'
  rw [List.filterMap_cons, List.filterMap_cons, q]
  rcases q' with q' | q' <;> rw [q']
  ·exact .inl rfl
  ·exact .inr rfl
 unfold swappedStores
 dsimp only
 split
 ·exact .inl rfl
 ·split
  ·exact .inl rfl
  ·rw [h2, h3]
   have key : ∀ (U : Sem (Option (List Str))) (L : List Str), (L = [x, y] \/ L = [x]) ->
     (if (L.length != 2 || L.eraseDups.length != L.length) = true then pure none else if false = true then pure none else if false = true then U else pure (some L)) = (pure none : Sem (Option (List Str))) \/
     (if (L.length != 2 || L.eraseDups.length != L.length) = true then pure none else if false = true then pure none else if false = true then U else pure (some L)) = (pure (some [x, y]) : Sem (Option (List Str))) := by
    rintro U L (rfl | rfl)
    ·right; rw [e2]; rfl
    ·left; rfl
   refine key _ _ (l _ ?_ ?_)
   ·show (if (env.kindOf x == some .local && px.line == px.line) = true then some x else none) = some x
    rw [q1, beq_self_eq_true, beq_self_eq_true]; rfl
   ·show (if (env.kindOf y == some .local && py.line == px.line) = true then some y else none) = some y \/ (if (env.kindOf y == some .local && py.line == px.line) = true then some y else none) = none
    rw [q2]
    cases (py.line == px.line)
    ·exact .inr rfl
    ·exact .inl rfl
theorem pi {kd : Kd} {ts vs : List Expr} (h : pj kd ts vs = true) : ∃ x px y py a b, ts = [.Name x px, .Name y py] /\ vs = [a, b] /\ (kd x != some .local || kd y != some .local || (x != y && !([a, b].all (foldedForSure 8)) && !([a, b].all (constantsAlone 8)))) = true := by
 match ts, vs, h with
 | [t, u], [a, b], h =>
  change (match aT t, aT u with
   | some x, some y => kd x != some .local || kd y != some .local || (x != y && !([a, b].all (foldedForSure 8)) && !([a, b].all (constantsAlone 8)))
   | _, _ => false) = true at h
  cases q1 : aT t with
  | none => rw [q1] at h; cases h
  | some x =>
   cases q2 : aT u with
   | none => rw [q1, q2] at h; cases h
   | some y =>
    rw [q1, q2] at h
    obtain ⟨px, rfl⟩ := bx q1
    obtain ⟨py, rfl⟩ := bx q2
    exact ⟨x, px, y, py, a, b, rfl, rfl, h⟩
 | [], _, h => cases h
 | [_], _, h => cases h
 | _ :: _ :: _ :: _, _, h => cases h
 | [_, _], [], h => cases h
 | [_, _], [_], h => cases h
 | [_, _], _ :: _ :: _ :: _, h => cases h
inductive xA (kd : Kd) (env : Env) (t v : Expr) : Prop
 | no (h : swappedStores [t] v env = pure none) : xA kd env t v
 | yes (x : Str) (px : Pos) (y : Str) (py : Pos) (c : Nat) (p : Pos) (a b : Expr) (c' : Nat) (p' : Pos) (et : t = .Tuple [.Name x px, .Name y py] c p) (ev : v = .Tuple [a, b] c' p') (ne : x ≠ y) (k1 : kd x = some .local) (k2 : kd y = some .local) (h : swappedStores [t] v env = pure (some [x, y])) : xA kd env t v
theorem k7 {kd : Kd} {env : Env} (hk : ∀ x, env.kindOf x = kd x) {t v : Expr} (h : ij kd t v = true) : xA kd env t v := by
 obtain ⟨g1, g2⟩ := Bool.and_eq_true_iff.mp (show (!jC t && (match gN t, gN v with
  | some ts, some vs => (dg ts).isSome || pj kd ts vs
  | _, _ => true)) = true from h)
 have g1 := Bool.not_eq_true' _ ▸ g1
 cases q1 : gN t with
 | none => exact .no (uD g1 q1)
 | some ts =>
  obtain ⟨c, p, rfl⟩ := jW q1
  cases q2 : gN v with
  | none => exact .no (uC q2)
  | some vs =>
   obtain ⟨c', p', rfl⟩ := jW q2
   rcases Bool.or_eq_true_iff.mp (show ((dg ts).isSome || pj kd ts vs) = true from g2) with g | g
   ·obtain ⟨⟨⟨o, a⟩, o', a'⟩, hr⟩ := Option.isSome_iff_exists.mp g
    obtain ⟨p1, p2, rfl⟩ := gx hr
    exact .no sg
   ·clear g2 q1 q2 h
    obtain ⟨x, px, y, py, a, b, rfl, rfl, g5⟩ := pi g
    clear g
    by_cases q : kd x = some .local /\ kd y = some .local
    ·obtain ⟨k1, k2⟩ := q
     rw [k1, k2] at g5
     have g : (x != y && !([a, b].all (foldedForSure 8)) && !([a, b].all (constantsAlone 8))) = true := g5
     refine dA g fun g g3 => ?_
     refine dA g fun g1 g2 => ?_
     rcases sd (px := px) (py := py) (p := p) (p' := p') (c := c) (c' := c') ((hk x).trans k1) ((hk y).trans k2) (bne_iff_ne.mp g1) (Bool.not_eq_true' _ ▸ g2) (Bool.not_eq_true' _ ▸ g3) with z | z
     ·exact .no z
     ·exact .yes x px y py c p a b c' p' rfl rfl (bne_iff_ne.mp g1) k1 k2 z
    ·exact .no (uE fun z => q ⟨(hk x).symm.trans z.1, (hk y).symm.trans z.2⟩)
section
variable {okF : Nat -> Str -> Bool} {prog : Program} {w : World} {K : Frag} {ca : Nat -> Addr} {base : Heap} {mg mb : Str -> Option Value} {μ μ1 : Mp} {H H1 H' Hx : MH} {h h' h1 : Heap} {A : Around} {E : Value -> Shared -> Prop} {s : Shared} {kd : Kd} {ρ ρ' : Rho} {env : Env}
variable {cx : Cx} {Rm : Around -> Prop} {n : Nat} {f : Fl} {Q : Flow -> Shared -> Prop}
theorem kY (V : aP kd ρ env μ n h) {b : Addr} (f : Fof kd env b) : h.get? b ≠ none := by
 rcases f with rfl | ⟨z, k, c⟩
 ·exact V.live.1
 ·exact V.live.2 z b (.inl k) c
theorem lV {t : Expr} (ns : ∀ e' p, t ≠ .Starred e' p) : (assignEach [t] env).map (·.2) = [assign t env] := by cases t <;> first | rfl | exact absurd rfl (ns _ _)
theorem tG {x y : Str} {px py p : Pos} {c : Nat} {v : MV} (nx : aV kd x = true) (ny : aV kd y = true) (e : asg cx n kd ρ (.Tuple [.Name x px, .Name y py] c p) v H = some (ρ', H')) : H' = H /\ ∃ u1 u2, jo H v = some [u1, u2] /\ ρ' = (y, u2) :: (x, u1) :: ρ := by
 change aa (cC v 2) (fun vs => (match bk kd [.Name x px, .Name y py] vs ρ with
    | some ρ' => ac ρ'
    | none => ai)) H = _ at e
 refine ay fun X hX => ?_
 refine bC e fun xs H3 e4 e5 => ?_
 obtain ⟨rfl, q2, l⟩ := d0 e4
 refine hX ?_
 match xs, l, q2, e5 with
 | [u1, u2], _, q2, e5 =>
  have e6 : bk kd [.Name x px, .Name y py] [u1, u2] ρ = some ((y, u2) :: (x, u1) :: ρ) := by
   show (if aV kd x then (if aV kd y then some ((y, u2) :: (x, u1) :: ρ) else none) else none) = _
   rw [if_pos nx, if_pos ny]
  refine ay fun X hX => ?_
  rw [e6] at e5
  obtain ⟨rfl, rfl⟩ := jb e5
  refine hX ?_
  exact ⟨rfl, u1, u2, q2, rfl⟩
theorem uF {x y : Str} (ne : x ≠ y) (u1 u2 : MV) (z : Str) : ad ((x, u1) :: (y, u2) :: ρ) z = ad ((y, u2) :: (x, u1) :: ρ) z := by
 by_cases z1 : z = x
 ·subst z1
  simp [ad, ne]
 ·by_cases z2 : z = y
  ·subst z2
   simp [ad, z1]
  ·simp [ad, z1, z2]
theorem si (hh : A.handled = none) (G : jU base kd env) (V : aP kd ρ env μ H.next s.heap) (S : Sim prog w ca base μ H s.heap) {x y : Str} {v u1 u2 : MV} {r : Value} (rv : av μ H.next s.heap v r) (q2 : jo H v = some [u1, u2]) (nx : aV kd x = true) (ny : aV kd y = true) (ne : x ≠ y)
  (hk : Kf prog w ca base kd env μ H s .next ((y, u2) :: (x, u1) :: ρ) H Q) : wpAny (model prog w) A (do
     rule "assign.swapped-stores"
     let items <- unpackItems r 2 none
     assignInOrder [fun u => bindName env y u, fun u => bindName env x u] items.reverse
     pure Flow.next) Q E s := by
 refine wpAny_bind (wpAny_rule (wpAny_bind (fo (xs := [u1, u2]) S hh rv q2 fun h2 tk2 rs S2 x2 v2 => ?_)))
 refine ay fun X hX => ?_
 obtain ⟨r1, _, rfl, w1, v2⟩ := v2.icons
 obtain ⟨r2, _, rfl, w2, v2⟩ := v2.icons
 obtain rfl := v2.inil
 refine hX ?_
 show wpAny _ _ (do (do holding [r1] (bindName env y r2); (do holding [] (bindName env x r1); pure ())); pure Flow.next) _ _ _
 refine wpAny_bind (wpAny_bind (wpAny_holding (wpAny_bindName (eU G (V.mono x2) S2 ny w2 fun h3 tk3 S3 x3 V3 => ?_))))
 refine wpAny_bind (wpAny_holding (wpAny_bindName (eU G V3 S3 nx (w1.mono x3) fun h4 tk4 S4 x4 V4 => ?_)))
 exact wpAny_pure (wpAny_pure (hk μ h4 tk4 .next S4 (x2.any.trans (x3.trans x4)) (V4.congr fun z => (uF ne u1 u2 z).symm) .next))
theorem jX (T : ck cx.okF K ca base mg mb) (O : Rok Rm) (I : Snd prog w ca base cx Rm n) (hA : Rm A) (G : jU base kd env) {t v : Expr} (q : ij kd t v = true) (V : aP kd ρ env μ H.next s.heap) (S : Sim prog w ca base μ H s.heap)
  (he : (evE cx n kd ρ v fun x => aa (asg cx n kd ρ t x) fun ρ' => ac (Fl.next, ρ')) H = some ((f, ρ'), H')) (hk : Kf prog w ca base kd env μ H s f ρ' H' Q) : wpAny (model prog w) A (do
    let r <- eval v env
    assignStores env r (<- swappedStores [t] v env) ((assignEach [t] env).map (·.2))) Q E s := by
 refine wpAny_bind (I.E A E s μ H H' kd ρ env v _ _ _ hA V S he fun μ1 H1 h1 tk m r e1 S1 x1 v1 => ?_)
 refine bC e1 fun ρ2 H2 e2 e3 => ?_
 obtain ⟨rfl, rfl, rfl⟩ := ju e3
 clear he e1 e3
 have hk := hk.go (tk := tk) x1.any
 have V := V.mono x1
 generalize hs1 : ({ s with heap := h1, toks := tk } : Shared) = s1 at hk
 obtain rfl : h1 = s1.heap := by rw [<- hs1]
 clear x1 S hs1
 have ns : ∀ e' p, t ≠ .Starred e' p := by rintro e' p rfl; exact nos e2
 rw [lV ns]
 cases k7 V.kinds q with
 | no q1 =>
  rw [q1]
  refine wpAny_bind (wpAny_pure ?_)
  show wpAny _ _ (do assign t env r; pure Flow.next) _ _ _
  exact wpAny_bind (jh T O I.E hA G V S1 v1 e2 fun μ2 h2 tk2 S2 x2 V2 => wpAny_pure (hk μ2 h2 tk2 .next S2 x2 V2 .next))
 | yes x px y py c p1 a b c' p2 et ev ne k1 k2 q1 =>
  rw [q1]
  refine wpAny_bind (wpAny_pure ?_)
  have nx : aV kd x = true := by unfold aV; rw [k1]; rfl
  have ny : aV kd y = true := by unfold aV; rw [k2]; rfl
  refine ay fun X hX => ?_
  rw [et] at e2
  obtain ⟨rfl, u1, u2, q2, rfl⟩ := tG nx ny e2
  refine hX ?_
  exact si (O.hd A hA) G V S1 v1 q2 nx ny ne hk
theorem se {elt : Expr} {y : Str} {py : Pos} {iter : Expr} {ifs : List Expr} {sc : Scope} {pos : Pos} {t : Expr} {l : Nat} : ∃ b, swapsWith (.ListComp elt [⟨.Name y py, iter, ifs, 0⟩] sc pos) (some t) l env = pure b /\ (b = true -> ∃ z pz, t = .Name z pz) := by
 cases t with
 | Name z pz => exact ⟨_, rfl, fun _ => ⟨z, pz, rfl⟩⟩
 | _ => exact ⟨false, rfl, nofun⟩
theorem sn (T : ck cx.okF K ca base mg mb) (O : Rok Rm) (I : ∀ n, Snd prog w ca base cx Rm n) (hA : Rm A) (G : jU base kd env) {m : Nat} {elt : Expr} {y z : Str} {py pz : Pos} {iter : Expr} {ifs : List Expr} {sc : Scope} {pos : Pos} (V : aP kd ρ env μ H.next s.heap) (S : Sim prog w ca base μ H s.heap)
  (he : (evE cx (m + 1) kd ρ (.ListComp elt [⟨.Name y py, iter, ifs, 0⟩] sc pos) fun x => aa (asg cx (m + 1) kd ρ (.Name z pz) x) fun ρ' => ac (Fl.next, ρ')) H = some ((f, ρ'), H')) (hk : Kf prog w ca base kd env μ H s f ρ' H' Q) :
  wpAny (model prog w) A (comprehension (.ListComp elt [⟨.Name y py, iter, ifs, 0⟩] sc pos) sc env (firstIterPos [⟨.Name y py, iter, ifs, 0⟩] pos) (newList []) false (eval iter env) (some fun r => assign (.Name z pz) env r)) (fun _ s => Q .next s) E s := by
 refine jY O (I m) hA V S he fun μ1 H1 h1 tk vv r C e1 S1 x1 v1 cf => ?_
 refine ay fun X hX => ?_
 refine bC e1 fun ρ2 H2 e2 e3 => ?_
 obtain ⟨rfl, rfl, rfl⟩ := ju e3
 clear he e1 e3
 refine hX ?_
 refine jh T O (I (m + 1)).E hA G (V.mono x1) S1 v1 e2 fun μ2 h2 tk2 S2 x2 V2 => ?_
 have hCF : ¬ Fof kd env C := fun f => kY V f cf.dead
 refine ay fun X hX => ?_
 obtain ⟨mC, N⟩ := cf.ns
 obtain ⟨oC, _, _, hoC, _⟩ := id N
 have oC2 : μ2.own C = none := ((x2.keep C oC (aE cf.own) (fun f => (hCF f).elim) hoC).1).trans cf.own
 have N2 : h2.Ns C mC := N.at fun o e => (x2.keep C o (aE cf.own) (fun f => (hCF f).elim) e).2
 refine hX ?_
 refine ⟨mC, N2, fun h3 sb => ?_⟩
 obtain ⟨S3, x3⟩ := S2.off (h' := h3) (aE oC2) cf.base (fun o e q _ => cR N2 o e q) (fun b o hb e => sb.extBut b o hb e) (fun z => by rw [oC2] at z; exact nos z)
 have x13 : Ext (Fof kd env) μ H.next s.heap μ2 H'.next h3 := (((x1.any (F := fun b => Fof kd env b \/ b = C)).trans (x2.weak fun b f => .inl f)).trans (x3.weak fun b f => .inr f)).only fun b g => by
  rcases g with g | g
  ·exact .inl g
  ·right; rw [g]; exact cf.dead
 exact hk μ2 h3 tk2 .next S3 x13 (V.past V2 x3 cf.dead) .next
theorem mB (T : ck cx.okF K ca base mg mb) (O : Rok Rm) (I : ∀ n, Snd prog w ca base cx Rm n) (hA : Rm A) (G : jU base kd env) {t v : Expr} {p : Pos} (V : aP kd ρ env μ H.next s.heap) (S : Sim prog w ca base μ H s.heap)
  (he : evS cx (n + 1) kd ρ (.Assign [t] v p) H = some ((f, ρ'), H')) (hk : Kf prog w ca base kd env μ H s f ρ' H' Q) : wpAny (model prog w) A (exec (.Assign [t] v p) env) Q E s := by
 change (if ij kd t v then evE cx n kd ρ v fun x => aa (asg cx n kd ρ t x) fun ρ' => ac (Fl.next, ρ') else ai) H = _ at he
 by_cases q : ij kd t v = true
 ·rw [if_pos q] at he
  rw [jG]
  refine wpAny_bind (wpAny_standAt ?_)
  by_cases hc : ∃ a b c d, v = .ListComp a b c d
  ·obtain ⟨elt, gens, sc, pos, rfl⟩ := hc
   refine ay fun X hX => ?_
   obtain ⟨⟨y, py, iter, ifs, rfl⟩, m, rfl⟩ := n8 he
   obtain ⟨b, sw, hb⟩ := se (env := env) (elt := elt) (y := y) (py := py) (iter := iter) (ifs := ifs) (sc := sc) (pos := pos) (t := t) (l := p.line)
   refine hX ?_
   rw [sw]
   refine wpAny_bind (wpAny_pure ?_)
   cases b with
   | false => exact jX T O (I _) hA G q V S he hk
   | true =>
    refine ay fun X hX => ?_
    obtain ⟨z, pz, rfl⟩ := hb rfl
    refine hX ?_
    rw [if_pos rfl]
    refine wpAny_bind ?_
    show wpAny _ _ (comprehension (.ListComp elt [⟨.Name y py, iter, ifs, 0⟩] sc pos) sc env (firstIterPos [⟨.Name y py, iter, ifs, 0⟩] pos) (newList []) false (eval iter env) (some fun r => assign (.Name z pz) env r) >>= fun _ => pure ()) _ _ _
    exact wpAny_bind (wpAny_mono (sn T O I hA G V S he hk) (fun _ _ h => wpAny_pure (wpAny_pure h)) fun _ _ x => x)
  ·have n2 : ∀ a b c d, v ≠ .SetComp a b c d := by rintro a b c d rfl; rw [fF] at he; exact nos he
   have n3 : ∀ a b c d p, v ≠ .DictComp a b c d p := by rintro a b c d p rfl; rw [eC] at he; exact nos he
   rw [nq (fun a b c d z => hc ⟨a, b, c, d, z⟩) n2 n3]
   refine wpAny_bind (wpAny_pure ?_)
   exact jX T O (I _) hA G q V S he hk
 ·rw [if_neg q] at he; exact nos he
end
section
variable {okF : Nat -> Str -> Bool} {prog : Program} {w : World} {K : Frag} {ca : Nat -> Addr} {base : Heap} {mg mb : Str -> Option Value} {μ μ1 : Mp} {H H1 H' Hx : MH} {h h' h1 : Heap} {A : Around} {E : Value -> Shared -> Prop} {s : Shared} {kd : Kd} {ρ ρ' : Rho} {env : Env}
variable {cx : Cx} {Rm : Around -> Prop} {n : Nat} {f : Fl} {Q : Flow -> Shared -> Prop}
inductive xz (prog : Program) (w : World) (ca : Nat -> Addr) (base : Heap) (cx : Cx) (n : Nat) (kd : Kd) (env : Env) (t : Expr) (b : List Stmt) (f : Fl) (ρ' : Rho) (H' : MH) (μ : Mp) (H : MH) (s : Shared) (m : Nat) (s' : Shared) : Prop
 | mk (μ1 : Mp) (H1 : MH) (h1 : Heap) (tk : Nat) (ρ1 : Rho) (es : s' = { s with heap := h1, toks := tk }) (S : Sim prog w ca base μ1 H1 h1) (x : Ext (Fof kd env) μ H.next s.heap μ1 H1.next h1) (V : aP kd ρ1 env μ1 H1.next h1)
  (e : dG (fun ρ => evB cx n kd ρ t) (fun ρ => ie cx n kd ρ b) m ρ1 H1 = some ((f, ρ'), H')) : xz prog w ca base cx n kd env t b f ρ' H' μ H s m s'
theorem po (I : Snd prog w ca base cx Rm n) (J : gt prog w ca base cx Rm n) (hA : Rm A) (G : jU base kd env) {t : Expr} {b : List Stmt} {p : Pos} (V : aP kd ρ env μ H.next s.heap) (S : Sim prog w ca base μ H s.heap)
  (he : evS cx (n + 1) kd ρ (.While t b [] p) H = some ((f, ρ'), H')) (hk : Kf prog w ca base kd env μ H s f ρ' H' Q) : wpAny (model prog w) A (exec (.While t b [] p) env) Q E s := by
 refine wpAny_While (codeAny_whileLoop (xz prog w ca base cx n kd env t b f ρ' H' μ H s) ?_ 20 ⟨μ, H, s.heap, s.toks, ρ, rfl, S, Ext.refl, V, he⟩)
 generalize hP : xz prog w ca base cx n kd env t b f ρ' H' μ H s = P
 intro m s' hs
 rw [<- hP] at hs
 obtain ⟨μ1, H1, h1, tk, ρ1, rfl, S1, x1, V1, e⟩ := hs
 cases m with
 | zero => exact nos e
 | succ m =>
  change aa (evB cx n kd ρ1 t) (fun b' => if b' then aa (ie cx n kd ρ1 b) (fun r => match r.1 with
   | .ret x => ac (Fl.ret x, r.2)
   | _ => dG (fun ρ => evB cx n kd ρ t) (fun ρ => ie cx n kd ρ b) m r.2)
  else ac (Fl.next, ρ1)) H1 = _ at e
  refine ay fun X hX => ?_
  refine bC e fun c H2 e1 e2 => ?_
  refine hX ?_
  refine I.B A _ _ μ1 H1 H2 kd ρ1 env t c _ hA V1 S1 e1 fun μ2 h2 tk2 S2 x2 => ?_
  cases c with
  | false =>
   refine ay fun X hX => ?_
   obtain ⟨rfl, rfl, rfl⟩ := ju e2
   refine hX ?_
   simp only [Bool.false_eq_true, if_false]
   exact wpAny_execs_nil (hk μ2 h2 tk2 .next S2 (x1.trans x2.any) (V1.mono x2) .next)
  | true =>
   simp only [if_true] at e2 ⊢
   refine ay fun X hX => ?_
   obtain ⟨⟨f1, ρ2⟩, H3, e3, e4⟩ := cj e2
   refine hX ?_
   refine J A _ _ μ2 H2 H3 kd ρ1 ρ2 env b f1 _ hA G (V1.mono x2) S2 e3 fun μ3 h3 tk3 fl S3 x3 V3 r => ?_
   have x13 := (x1.trans x2.any).trans x3
   cases r with
   | next => exact ⟨m, Nat.lt_succ_self _, by rw [<- hP]; exact ⟨μ3, H3, h3, tk3, ρ2, rfl, S3, x13, V3, e4⟩⟩
   | cont => exact ⟨m, Nat.lt_succ_self _, by rw [<- hP]; exact ⟨μ3, H3, h3, tk3, ρ2, rfl, S3, x13, V3, e4⟩⟩
   | ret v rr vr =>
    refine ay fun X hX => ?_
    obtain ⟨rfl, rfl, rfl⟩ := ju e4
    refine hX ?_
    exact hk μ3 h3 tk3 (.ret rr) S3 x13 V3 (.ret v rr vr)
inductive yp (prog : Program) (w : World) (ca : Nat -> Addr) (base : Heap) (cx : Cx) (n : Nat) (kd : Kd) (env : Env) (t : Expr) (b : List Stmt) (it : Addr) (src : Src) (f : Fl) (ρ' : Rho) (H' : MH) (μ : Mp) (H : MH) (s : Shared) (m : Nat) (s' : Shared) : Prop
 | mk (μ1 : Mp) (H1 : MH) (h1 : Heap) (tk : Nat) (ρ1 : Rho) (j : Nat) (es : s' = { s with heap := h1, toks := tk }) (S : Sim prog w ca base μ1 H1 h1) (x : Ext (Fof kd env) μ H.next s.heap μ1 H1.next h1) (V : aP kd ρ1 env μ1 H1.next h1) (F : ItF base μ1 h1 it) (I : ItR μ1 H1.next h1 it src j)
  (e : ba src (fun v ρ => aa (asg cx n kd ρ t v) fun ρ' => ie cx n kd ρ' b) m j ρ1 H1 = some ((f, ρ'), H')) : yp prog w ca base cx n kd env t b it src f ρ' H' μ H s m s'
set_option backward.match.sparseCases true in
theorem jd {it : Addr} {src : Src} {j : Nat} {t : Expr} {v : Value} {Q : Unit -> Shared -> Prop} (I : ItR μ n s.heap it src j) (h : Q () s) : wpAny (model prog w) A (letOwnedTupleGo t (.ref it) v) Q E s := by
 have obj : ∃ o T vs, s.heap.get? it = some o /\ o.cls = .type T /\ o.data = .fields vs /\ (["enumerate", "zip", "dict_itemiterator", "dict_reverseitemiterator", "odict_iterator", "itertools.zip_longest", "itertools.pairwise"].contains T) = false := by
  cases I with
  | lst k _ hk i => obtain ⟨o, a, b, c⟩ := i; exact ⟨o, _, _, a, b, c, by decide⟩
  | fz xs l _ v ne i => obtain ⟨o, a, b, c⟩ := i; exact ⟨o, _, _, a, b, c, by decide⟩
  | tup xs l _ v ne i => obtain ⟨o, a, b, c⟩ := i; exact ⟨o, _, _, a, b, c, by decide⟩
  | rng N _ i => exact ⟨_, _, _, i, rfl, rfl, by decide⟩
 obtain ⟨o, T, vs, ho, hc, hd, hT⟩ := obj
 have main : wpAny (model prog w) A (do
   let (.ref r, .ref a) := (Value.ref it, v) | return
   let o <- load r
   match o.cls, o.data with
   | .type n, .fields vs =>
    if ["enumerate", "zip", "dict_itemiterator", "dict_reverseitemiterator", "odict_iterator", "itertools.zip_longest", "itertools.pairwise"].contains n && vs[0]? == some (rawInt a) then
     rule "for.unpacks-the-owned-tuple"
     updateField r 0 .none
   | _, _ => pure ()) Q E s := by
  cases v with
  | ref a =>
   dsimp only
   refine wpAny_bind (wpAny_load ho ?_)
   rw [hc, hd]
   dsimp only
   rw [hT, Bool.false_and, if_neg Bool.false_ne_true]
   exact wpAny_pure h
  | _ => exact wpAny_pure h
 cases t with
 | Tuple _ _ _ => exact main
 | List _ _ => exact main
 | _ => exact wpAny_pure h
theorem uG (T : ck cx.okF K ca base mg mb) (O : Rok Rm) (I : Snd prog w ca base cx Rm n) (J : gt prog w ca base cx Rm n) (hA : Rm A) (G : jU base kd env) {t i : Expr} {b : List Stmt} {p : Pos} (V : aP kd ρ env μ H.next s.heap) (S : Sim prog w ca base μ H s.heap)
  (he : evS cx (n + 1) kd ρ (.For t i b [] p) H = some ((f, ρ'), H')) (hk : Kf prog w ca base kd env μ H s f ρ' H' Q) : wpAny (model prog w) A (exec (.For t i b [] p) env) Q E s := by
 have hh := O.hd A hA
 change (if cX i then ai else evI cx n kd ρ i fun src => ba src.1 (fun v ρ => aa (asg cx n kd ρ t v) fun ρ' => ie cx n kd ρ' b) src.2 0 ρ) H = _ at he
 by_cases q : cX i = true
 ·rw [if_pos q] at he; exact nos he
 ·rw [if_neg q] at he
  refine wpAny_For (I.I A E s μ H H' kd ρ env i _ (f, ρ') _ hA V S he fun μ0 H0 h0 tk0 it src m0 e0 S0 x0 dead F0 I0 => ?_) (iJ q)
  have nF : ¬ Fof kd env it := fun f => kY V f dead
  refine codeAny_forLoop_any (yp prog w ca base cx n kd env t b it src f ρ' H' μ H s) ?_ m0 ⟨μ0, H0, h0, tk0, ρ, 0, rfl, S0, x0.any, V.mono x0, F0, I0, e0⟩
  generalize hP : yp prog w ca base cx n kd env t b it src f ρ' H' μ H s = P
  intro m s' hs
  rw [<- hP] at hs
  obtain ⟨μ1, H1, h1, tk, ρ1, j, rfl, S1, x1, V1, F1, I1, e⟩ := hs
  cases m with
  | zero => exact nos e
  | succ m =>
   unfold ba at e
   cases qa : src.at_ H1 j with
   | none => rw [qa] at e; exact nos e
   | some a =>
    rw [qa] at e
    refine ng S1 hh F1 I1 qa fun h2 tk2 r S2 x2 keep2 rn rs => ?_
    have x2' : Ext (Fof kd env) μ H.next s.heap μ1 H1.next h2 := ((x1.weak (F' := fun b => Fof kd env b \/ b = it) fun b f => .inl f).trans (x2.weak fun b f => .inr f)).only fun b g => by
     rcases g with g | g
     ·exact .inl g
     ·right; rw [g]; exact dead
    have V2 : aP kd ρ1 env μ1 H1.next h2 := V.past V1 x2 dead
    cases a with
    | none =>
     have := rn rfl
     refine ay fun X hX => ?_
     subst this
     obtain ⟨rfl, rfl, rfl⟩ := ju e
     refine hX ?_
     exact wpAny_execs_nil (hk μ1 h2 tk2 .next S2 x2' V2 .next)
    | some v =>
     obtain ⟨rv, rfl, v2, F2, I2⟩ := rs v rfl
     dsimp only
     refine jd (s := { s with heap := h2, toks := tk2 }) I2 ?_
     have e : aa (aa (asg cx n kd ρ1 t v) fun ρ' => ie cx n kd ρ' b) (fun r => match r.1 with
      | .ret x => ac (.ret x, r.2)
      | _ => ba src (fun v ρ => aa (asg cx n kd ρ t v) fun ρ' => ie cx n kd ρ' b) m (j + 1) r.2) H1 = some ((f, ρ'), H') := e
     refine ay fun X hX => ?_
     obtain ⟨⟨f1, ρ3⟩, H4, e1, e2⟩ := cj e
     refine bC e1 fun ρ2 H3 e3 e4 => ?_
     refine hX ?_
     refine jh T O I.E hA G V2 S2 v2 e3 fun μ3 h3 tk3 S3 x3 V3 => ?_
     obtain ⟨F3, k3⟩ := F2.keep x3 nF
     have I3 := I2.keep x3 k3
     refine J A _ _ μ3 H3 H4 kd ρ2 ρ3 env b f1 _ hA G V3 S3 e4 fun μ4 h4 tk4 fl S4 x4 V4 r => ?_
     have x14 := x2'.trans (x3.trans x4)
     obtain ⟨F4, k4⟩ := F3.keep x4 nF
     have I4 := I3.keep x4 k4
     cases r with
     | next => exact ⟨m, Nat.lt_succ_self _, by rw [<- hP]; exact ⟨μ4, H4, h4, tk4, ρ3, j + 1, rfl, S4, x14, V4, F4, I4, e2⟩⟩
     | cont => exact ⟨m, Nat.lt_succ_self _, by rw [<- hP]; exact ⟨μ4, H4, h4, tk4, ρ3, j + 1, rfl, S4, x14, V4, F4, I4, e2⟩⟩
     | ret u rr vr =>
      refine ay fun X hX => ?_
      obtain ⟨rfl, rfl, rfl⟩ := ju e2
      refine hX ?_
      exact hk μ4 h4 tk4 (.ret rr) S4 x14 V4 (.ret u rr vr)
theorem mK (T : ck cx.okF K ca base mg mb) (O : Rok Rm) (I : ∀ n, Snd prog w ca base cx Rm n) (J : gt prog w ca base cx Rm n) : xB prog w ca base cx Rm (n + 1) := by
 intro A E s μ H H' kd ρ ρ' env st f Q hA G V S he hk
 have bad : ai H = some ((f, ρ'), H') -> wpAny (model prog w) A (exec st env) Q E s := fun e => by exact nos e
 cases st with
 | Expr e p => exact sj (I n) hA V S he hk
 | Return e p =>
  cases e with
  | none =>
   refine ay fun X hX => ?_
   obtain ⟨rfl, rfl, rfl⟩ := ju he
   refine hX ?_
   exact wpAny_Return_none (hk μ s.heap s.toks (.ret .none) S Ext.refl V (.ret .none .none .none))
  | some e => exact mA (I n) hA V S he hk
 | Continue p =>
  refine ay fun X hX => ?_
  obtain ⟨rfl, rfl, rfl⟩ := ju he
  refine hX ?_
  show wpAny _ _ (do standAt p; pure Flow.cont) _ _ _
  exact wpAny_bind (wpAny_standAt (wpAny_pure (hk μ s.heap s.toks .cont S Ext.refl V .cont)))
 | Assign ts v p =>
  cases ts with
  | nil => exact bad he
  | cons t ts =>
   cases ts with
   | cons _ _ => exact bad he
   | nil => exact mB T O I hA G V S he hk
 | AugAssign t op v p =>
  cases t with
  | Name y p1 => exact jf T (I n) hA G V S he hk
  | Attribute o a p1 => exact jg T (I n) hA V S he hk
  | _ => exact bad he
 | If t b o p => exact w6 (I n) J hA G V S he hk
 | While t b o p =>
  cases o with
  | nil => exact po (I n) J hA G V S he hk
  | cons _ _ => exact bad he
 | For t i b o p =>
  cases o with
  | nil => exact uG T O (I n) J hA G V S he hk
  | cons _ _ => exact bad he
 | _ => exact bad he
theorem ld (J : gt prog w ca base cx Rm n) (J' : xB prog w ca base cx Rm n) : gt prog w ca base cx Rm (n + 1) := by
 intro A E s μ H H' kd ρ ρ' env l f Q hA G V S he hk
 cases l with
 | nil =>
  refine ay fun X hX => ?_
  obtain ⟨rfl, rfl, rfl⟩ := ju he
  refine hX ?_
  exact wpAny_execs_nil (hk μ s.heap s.toks .next S Ext.refl V .next)
 | cons st l =>
  change aa (evS cx n kd ρ st) (fun x => match x.1 with
   | .next => ie cx n kd x.2 l
   | f => ac (f, x.2)) H = _ at he
  refine ay fun X hX => ?_
  obtain ⟨⟨f1, ρ1⟩, H1, e1, e2⟩ := cj he
  refine hX ?_
  refine wpAny_execs_cons (J' A E s μ H H1 kd ρ ρ1 env st f1 _ hA G V S e1 fun μ1 h1 tk fl S1 x1 V1 r => ?_)
  cases r with
  | next => exact J A E _ μ1 H1 H' kd ρ1 ρ' env l f Q hA G V1 S1 e2 (hk.go x1)
  | cont => obtain ⟨rfl, rfl, rfl⟩ := ju e2; exact hk μ1 h1 tk .cont S1 x1 V1 .cont
  | ret v rr vr => obtain ⟨rfl, rfl, rfl⟩ := ju e2; exact hk μ1 h1 tk (.ret rr) S1 x1 V1 (.ret v rr vr)
theorem pF (T : ck cx.okF K ca base mg mb) (B : qV prog w ca base mg cx Rm) (O : Rok Rm) : ∀ n, xB prog w ca base cx Rm n /\ gt prog w ca base cx Rm n := by
 intro n
 induction n with
 | zero => exact ⟨fun A E s μ H H' kd ρ ρ' env st f Q hA G V S he hk => (by cases he), fun A E s μ H H' kd ρ ρ' env st f Q hA G V S he hk => (by cases he)⟩
 | succ n ih =>
  obtain ⟨J', J⟩ := ih
  exact ⟨mK T O (fun n => (sC T B O n).1) J, ld J J'⟩
end
theorem nB : ∀ {names : List Str} {vs : List Value} {y : Str}, y ∉ names -> (names.zip vs).lookup y = none := by
 intro names
 induction names with
 | nil => intro vs y _; rfl
  | cons a names ih =>
  intro vs y h
  cases vs with
  | nil => rfl
  | cons v vs =>
  rw [List.zip_cons_cons, List.lookup_cons, beq_eq_false_iff_ne.mpr (fun z => h (by rw [z]; exact List.mem_cons_self))]
  exact ih fun z => h (List.mem_cons_of_mem _ z)
theorem fu : ∀ {names : List Str} {vs : List Value} {y : Str}, y ∈ names.take vs.length -> ((names.zip vs).lookup y).isSome = true := by
 intro names
 induction names with
 | nil => intro vs y h; simp at h
  | cons a names ih =>
  intro vs y h
  cases vs with
  | nil => simp at h
  | cons v vs =>
  rw [List.zip_cons_cons, List.lookup_cons]
  cases q : y == a with
  | true => rfl
  | false =>
   rw [List.length_cons, List.take_succ_cons] at h
   rcases List.mem_cons.mp h with z | z
   ·rw [z, beq_self_eq_true] at q; cases q
   ·exact ih z
theorem lM (f : Str × Value -> List (Str × Value) -> Sem (ForInStep (List (Str × Value)))) (hf : ∀ n d acc, f (n, d) acc = if (acc.lookup n).isNone then pure (.yield (acc ++ [(n, d)])) else pure (.yield acc)) :
  ∀ (l acc : List (Str × Value)), (∀ p ∈ l, acc.lookup p.1 = none) -> (l.map (·.1)).Nodup -> forIn l acc f = pure (acc ++ l) := by
 intro l
 induction l with
 | nil => intro acc _ _; rw [List.forIn_nil, List.append_nil]
 | cons p l ih =>
  obtain ⟨n, d⟩ := p
  intro acc h nd
  have nd' := List.nodup_cons.mp nd
  rw [List.forIn_cons, hf, h (n, d) List.mem_cons_self]
  simp only [Option.isNone_none, if_true, pure_bind]
  rw [ih (acc ++ [(n, d)]) (fun p hp => by
   rw [List.lookup_append, h p (List.mem_cons_of_mem _ hp), Option.none_or, List.lookup_cons, beq_eq_false_iff_ne.mpr (fun z => nd'.1 (by rw [<- z]; exact List.mem_map_of_mem (f := (·.1)) hp))]; rfl) nd'.2, List.append_assoc]
  rfl
theorem hG {α β : Type} {f g : α -> Option β} : ∀ {l : List α}, (∀ x ∈ l, f x = g x) -> l.filterMap f = l.filterMap g := by
 intro l
 induction l with
 | nil => exact fun _ => rfl
 | cons a l ih =>
  intro h
  rw [List.filterMap_cons, List.filterMap_cons, h a List.mem_cons_self, ih fun x hx => h x (List.mem_cons_of_mem _ hx)]
theorem fx : ∀ {names : List Str} {vs : List Value} {y : Str}, names.Nodup -> y ∈ names.drop vs.length -> (names.zip vs).lookup y = none := by
 intro names
 induction names with
 | nil => intro vs y _ h; simp at h
  | cons a names ih =>
  intro vs y nd h
  cases vs with
  | nil => rfl
  | cons v vs =>
  have nd' := List.nodup_cons.mp nd
  have h : y ∈ names.drop vs.length := h
  rw [List.zip_cons_cons, List.lookup_cons, beq_eq_false_iff_ne.mpr (fun z => nd'.1 (by rw [<- z]; exact List.mem_of_mem_drop h))]
  exact ih nd'.2 h
theorem hF : ∀ (names : List Str) (ws : List Value), names.Nodup -> ws.length = names.length -> (names.filterMap fun n => ((names.zip ws).lookup n).map (n, ·)) = names.zip ws := by
 intro names
 induction names with
 | nil => intro ws _ _; rfl
  | cons a names ih =>
  intro ws nd h
  cases ws with
  | nil => cases h
  | cons w ws =>
  have nd' := List.nodup_cons.mp nd
  have ih := ih ws nd'.2 (by simpa using h)
  rw [List.filterMap_cons, List.zip_cons_cons]
  simp only [List.lookup_cons, beq_self_eq_true, Option.map_some]
  congr 1
  rw [<- ih]
  refine hG fun n hn => ?_
  rw [beq_eq_false_iff_ne.mpr (fun z => nd'.1 (by rw [<- z]; exact hn))]
  rw [ih]
theorem mn : ∀ (names : List Str) (vs ds : List Value), names.zip (vs ++ ds) = names.zip vs ++ (names.drop vs.length).zip ds := by
 intro names
 induction names with
 | nil => intro vs ds; simp
  | cons a names ih =>
  intro vs ds
  cases vs with
  | nil => rfl
  | cons v vs => exact congrArg _ (ih vs ds)
theorem jK {s : Shared} {fd : FuncData} {as : List Arg} {ks : List (Option Expr)} {de : List Expr} {vals dv : List Value} (hp : fd.params = ⟨[], as, none, [], ks, none, de⟩) (nd : (as.map (·.arg)).Nodup) (hl : vals.length + dv.length = (as.map (·.arg)).length)
  (hd : (fd.defaults = .none /\ dv = []) \/ ∃ T o n, fd.defaults = .ref T /\ s.heap.get? T = some o /\ o.data = .seq dv.toArray n) : BindsTo s fd ⟨vals, []⟩ ((as.map (·.arg)).zip (vals ++ dv)) := by
 intro M A E Q hq
 unfold bindArgs
 rw [hp]
 dsimp only [List.map_nil, List.nil_append, List.forIn_nil]
 refine wpAny_bind (wpAny_pure ?_)
 dsimp only [List.map_nil, List.nil_append]
 generalize hn : as.map (·.arg) = names at nd hl hq ⊢
 have seq : wpAny M A (seqItems? fd.defaults) (fun ds s' => (ds.getD #[]).toList = dv /\ s' = s) E s := by
  rcases hd with ⟨e, rfl⟩ | ⟨T, o, n, e, ho, hd⟩
  ·rw [e]; exact wpAny_pure ⟨rfl, rfl⟩
  ·rw [e]; exact wpAny_seqItems ho hd ⟨by rfl, rfl⟩
 refine wpAny_bind (wpAny_mono seq (fun ds s' h => ?_) fun _ _ x => x)
 obtain ⟨h1, rfl⟩ := h
 rw [h1]
 have c1 : (decide (vals.length > names.length) && (none : Option Arg).isNone) = false := by
  rw [decide_eq_false (by exact nlt (aK _ _ _ 0 (.a .x .z) .y .x .y rfl (Nat.le_of_eq hl)))]; rfl
 rw [if_neg (show ¬ (decide (vals.length > (List.map (fun x : Arg => x.arg) [] ++ names).length) && (none : Option Arg).isNone) = true from fun z => Bool.false_ne_true (c1.symm.trans z))]
 rw [show List.map (fun x : Arg => x.arg) [] ++ names = names from rfl]
 have dr : dv.length - names.length = 0 := by omega
 rw [dr, List.drop_zero]
 have fst : names.length - dv.length = vals.length := by omega
 rw [fst]
 have ms : List.filter (fun n => (List.lookup n (names.zip vals)).isNone) (List.take vals.length names) = [] := by
  rw [List.filter_eq_nil_iff]
  intro y hy
  have := fu hy
  cases q : List.lookup y (names.zip vals) with
  | none => rw [q] at this; cases this
  | some _ => simp
 rw [ms]
 rw [if_neg (by decide)]
 have sub : ∀ p ∈ (names.drop vals.length).zip dv, (names.zip vals).lookup p.1 = none := fun p hp => fx nd (List.of_mem_zip hp).1
 have ndd : (((names.drop vals.length).zip dv).map (·.1)).Nodup := by
  rw [List.map_fst_zip (by rw [List.length_drop]; omega)]
  exact (List.drop_sublist _ _).nodup nd
 rw [lM _ (fun n d acc => by
  by_cases q : (acc.lookup n).isNone = true <;> simp [q]) _ _ sub ndd]
 rw [<- mn]
 refine wpAny_bind (wpAny_pure ?_)
 rw [show List.map (fun x : Arg => x.arg) [] = [] from rfl, List.forIn_nil]
 refine wpAny_bind (wpAny_pure ?_)
 show wpAny M A (pure (List.filterMap (fun n => Option.map (fun x => (n, x)) (List.lookup n (names.zip (vals ++ dv)))) (names ++ []))) Q E s'
 rw [List.append_nil, hF names (vals ++ dv) nd (by rw [List.length_append]; exact hl)]
 exact wpAny_pure hq
noncomputable def rg (sc : Scope) (as : List Arg) : Bool := sc.kind == .function && !sc.isCoroutine && !sc.isGenerator && sc.names.all (fun p => p.2 != .free) && sc.names.lookup gA == none && sc.names.lookup bL == none &&
 as.all (fun a => aV (bA sc) a.arg) && decide ((as.map (·.arg)).Nodup)
structure wu (K : Frag) (f : Addr) (as : List Arg) (body : List Stmt) (sc : Scope) (dv : List Value) : Prop where
 ex : ∃ fd oc od osl ks de, K.lookup f = some ⟨oc, od, .func fd, osl⟩ /\ fd.params = ⟨[], as, none, [], ks, none, de⟩ /\ fd.body = .stmts body /\ fd.scope = sc /\ fd.globals = mainGlobals /\ fd.builtins = builtinsNs /\ fd.closure = [] /\
  ((fd.defaults = .none /\ dv = []) \/ ∃ T o n, fd.defaults = .ref T /\ K.lookup T = some o /\ o.data = .seq dv.toArray n) /\ codeIn K fd.code fd.qualname = true
theorem fN {μ : Mp} {n : Nat} {h : Heap} {as : List Arg} : ∀ {vs : List MV} {rs : List Value} {ρ : Rho}, cM as vs = some ρ -> ax μ n h vs rs -> ∀ z v, ad ρ z = some v -> ∃ r, ((as.map (·.arg)).zip rs).lookup z = some r /\ av μ n h v r := by
 induction as with
 | nil => intro vs rs ρ e rv z v l; cases vs with
  | nil => obtain rfl := Option.some.inj e; exact nos l
  | cons _ _ => exact nos e
 | cons a as ih => intro vs rs ρ e rv z v l; cases vs with
  | nil => exact nos e
  | cons v1 vs =>
   refine ay fun X hX => ?_
   obtain ⟨r1, rs, rfl, p, rv⟩ := rv.icons
   obtain ⟨ρ1, e1, rfl⟩ := Option.map_eq_some_iff.mp (show (cM as vs).map (fun r => (a.arg, v1) :: r) = some ρ from e)
   refine hX ?_
   rw [List.map_cons, List.zip_cons_cons, List.lookup_cons]
   change (if z = a.arg then some v1 else ad ρ1 z) = _ at l
   by_cases q : z = a.arg
   ·rw [if_pos q] at l
    obtain rfl := Option.some.inj l
    rw [q, beq_self_eq_true]
    exact ⟨_, rfl, p⟩
   ·rw [if_neg q] at l
    rw [beq_eq_false_iff_ne.mpr q]
    exact ih e1 rv z v l
theorem qD {as : List Arg} : ∀ {vs : List MV} {ρ : Rho}, cM as vs = some ρ -> vs.length = as.length := by
 induction as with
 | nil => intro vs ρ e; cases vs with
  | nil => rfl
  | cons _ _ => exact nos e
 | cons a as ih => intro vs ρ e; cases vs with
  | nil => exact nos e
  | cons v vs =>
   refine ay fun X hX => ?_
   obtain ⟨ρ1, e1, rfl⟩ := Option.map_eq_some_iff.mp (show (cM as vs).map _ = some ρ from e)
   refine hX ?_
   rw [List.length_cons, List.length_cons, ih e1]
theorem iR {ko : Str -> Option NameKind} {z : Str} (hz : ko z = some .local) (l : List (Str × Value)) : ∀ (m : Str -> Option Value), (l.map (·.1)).Nodup -> bindL ko l m z = (l.lookup z).or (m z) := by
 induction l with
 | nil => intro _ _; rfl
 | cons p l ih =>
  obtain ⟨n, v⟩ := p
  intro m nd
  have nd' := List.nodup_cons.mp nd
  unfold bindL
  rw [ih _ nd'.2, List.lookup_cons]
  by_cases q : z = n
  ·subst q
   have none_ : l.lookup z = none := by
    cases h : l.lookup z with
    | none => rfl
    | some u => exact absurd (List.mem_map_of_mem (f := (·.1)) (mem_of_lookup h)) nd'.1
   rw [none_, hz]
   simp
  ·rw [beq_eq_false_iff_ne.mpr q]
   dsimp only
   congr 1
   split
   ·exact if_neg q
   ·rfl
theorem iS {ko : Str -> Option NameKind} {z : Str} (hz : ko z ≠ some .local) (l : List (Str × Value)) : ∀ (m : Str -> Option Value), (l.map (·.1)).Nodup -> bindC ko l m z = (l.lookup z).or (m z) := by
 induction l with
 | nil => intro _ _; rfl
 | cons p l ih =>
  obtain ⟨n, v⟩ := p
  intro m nd
  have nd' := List.nodup_cons.mp nd
  unfold bindC
  rw [ih _ nd'.2, List.lookup_cons]
  by_cases q : z = n
  ·subst q
   have none_ : l.lookup z = none := by
    cases h : l.lookup z with
    | none => rfl
    | some u => exact absurd (List.mem_map_of_mem (f := (·.1)) (mem_of_lookup h)) nd'.1
   rw [none_, if_neg hz]
   simp
  ·rw [beq_eq_false_iff_ne.mpr q]
   dsimp only
   congr 1
   split
   ·rfl
   ·exact if_neg q
theorem dR (names : List (Str × NameKind)) : ∀ (n : Nat) (acc : List (Str × Addr)) (z : Str), ((z, NameKind.cell) ∈ names \/ (acc.lookup z).isSome = true) -> ((cellsFrom n names acc).lookup z).isSome = true := by
 induction names with
 | nil =>
  intro n acc z h
  rcases h with h | h
  ·cases h
  ·exact h
 | cons p r ih =>
  obtain ⟨a, k⟩ := p
  intro n acc z h
  unfold cellsFrom
  split
  ·refine ih _ _ z ?_
   by_cases q : z = a
   ·right; rw [q, List.lookup_cons_self]; rfl
   ·rcases h with h | h
    ·rcases List.mem_cons.mp h with e | e
     ·cases e; exact absurd rfl q
     ·exact .inl e
    ·right; rw [List.lookup_cons, beq_eq_false_iff_ne.mpr q]; exact h
  ·rename_i hk
   refine ih _ _ z ?_
   rcases h with h | h
   ·rcases List.mem_cons.mp h with e | e
    ·cases e; exact absurd rfl hk
    ·exact .inl e
   ·exact .inr h
theorem pJ {sc : Scope} {as : List Arg} (h : rg sc as = true) : sc.kind = .function /\ sc.isCoroutine = false /\ sc.isGenerator = false /\ (∀ z, bA sc z ≠ some .free) /\ sc.names.lookup gA = none /\ sc.names.lookup bL = none /\
  (∀ a ∈ as, aV (bA sc) a.arg = true) /\ (as.map (·.arg)).Nodup := by
 refine ay fun X hX => ?_
 unfold rg at h
 simp only [Bool.and_eq_true, List.all_eq_true, Bool.not_eq_true', beq_iff_eq, bne_iff_ne, decide_eq_true_eq] at h
 obtain ⟨⟨⟨⟨⟨⟨⟨h1, h2⟩, h3⟩, h4⟩, h5⟩, h6⟩, h7⟩, h8⟩ := h
 refine hX ?_
 refine ⟨h1, h2, h3, fun z q => ?_, h5, h6, h7, h8⟩
 exact h4 _ (mem_of_lookup (show sc.names.lookup z = some .free from q)) rfl
section
variable {okF : Nat -> Str -> Bool} {prog : Program} {w : World} {K : Frag} {ca : Nat -> Addr} {base : Heap} {mg mb : Str -> Option Value} {μ μ1 : Mp} {H H1 H' Hx : MH} {h h' h1 : Heap} {A : Around} {E : Value -> Shared -> Prop} {s : Shared} {kd : Kd} {ρ ρ' : Rho} {env : Env}
variable {cx : Cx} {Rm : Around -> Prop} {n : Nat} {f : Fl} {Q : Flow -> Shared -> Prop}
theorem vg {p : Arguments} {body : List Stmt} {sc : Scope} {vs : List MV} {m : MV} (e : evF cx p body sc vs H = some (m, H')) : ∃ ρ f ρ', cM p.args vs = some ρ /\ ie cx 60 (bA sc) ρ body H = some ((f, ρ'), H') /\ ((f = .next /\ m = .none) \/ f = .ret m) := by
 unfold evF at e
 cases q : cM p.args vs with
 | none => rw [q] at e; exact nos e
 | some ρ =>
  refine ay fun X hX => ?_
  rw [q] at e
  obtain ⟨⟨f, ρ'⟩, H2, e1, e2⟩ := cj e
  refine hX ?_
  cases f with
  | next => obtain ⟨rfl, rfl⟩ := jb e2; exact ⟨ρ, .next, ρ', rfl, e1, .inl ⟨rfl, rfl⟩⟩
  | cont => exact nos e2
  | ret v => obtain ⟨rfl, rfl⟩ := jb e2; exact ⟨ρ, .ret m, ρ', rfl, e1, .inr rfl⟩
theorem og (T : ck okF K ca base mg mb) (J : gt prog w ca base cx Rm 60) {fa : Addr} {p : Arguments} {body : List Stmt} {sc : Scope} {vals dv : List Value} {vs : List MV} {m : MV} {R : Result -> Shared -> Prop} (hroom : A.depth < recursionLimit) (hRm : ∀ env, Rm (A.deeper env))
  (F : wu K fa p.args body sc dv) (ok : rg sc p.args = true) (S : Sim prog w ca base μ H s.heap) (rv : ax μ H.next s.heap vs (vals ++ dv)) (e : evF cx p body sc vs H = some (m, H'))
  (hq : ∀ μ' h' tk r, Sim prog w ca base μ' H' h' -> Ext noF μ H.next s.heap μ' H'.next h' -> av μ' H'.next h' m r -> R (.ok (.ret r)) { s with heap := h', toks := tk }) :
  codeAny (model prog w) A (.call (.ref fa) ⟨vals, []⟩) R s := by
 refine ay fun X hX => ?_
 obtain ⟨fd, oc, od, osl, ks, de, ho, hp, hb, hsc, hgl, hbl, hcl, hdf, hcd⟩ := F.ex
 obtain ⟨f1, f2, f3, f4, f5, f6, f7, f8⟩ := pJ ok
 obtain ⟨ρ, f, ρ', ea, es, ef⟩ := vg e
 have X := T.X.keeps S.keeps
 have zl := rv.len
 have al := qD ea
 subst hsc
 have hbind : BindsTo s fd ⟨vals, []⟩ ((p.args.map (·.arg)).zip (vals ++ dv)) := by
  refine jK hp f8 (by rw [<- List.length_append, <- zl, al, List.length_map]) ?_
  rcases hdf with ⟨d1, d2⟩ | ⟨T', o, n, d1, d2, d3⟩
  ·exact .inl ⟨d1, d2⟩
  ·exact .inr ⟨T', o, n, d1, X _ _ d2, d3⟩
 have keys : ((p.args.map (·.arg)).zip (vals ++ dv)).map (·.1) = p.args.map (·.arg) := List.map_fst_zip (by rw [List.length_map, <- al, zl]; exact Nat.le_refl _)
 refine hX ?_
 refine codeAny_call_function hroom (X _ _ ho) rfl f2 f3 hb (codeRec_of X hcd) (hbind _ _ _ _ ?_)
 rw [hcl]
 refine wpAny_newFunctionEnv_cells f1 (fun x hx => ?_) fun env he s' x => ?_
 ·have hm : x.1 ∈ p.args.map (·.arg) := by rw [<- keys]; exact List.mem_map_of_mem hx
  obtain ⟨a, ha, ea⟩ := List.mem_map.mp hm
  have := f7 a ha
  rw [ea] at this
  unfold aV at this
  rcases (by simpa using this : bA fd.scope x.1 = some .local \/ bA fd.scope x.1 = some .cell) with q | q
  ·exact .inl q
  ·exact .inr ⟨q, dR _ _ _ _ (.inl (mem_of_lookup q))⟩
 ·obtain ⟨h1, tk, rfl, keep⟩ := x.done
  obtain ⟨S1, x1⟩ := S.grow keep
  refine ⟨T.lim.keeps S1.keeps, codeAny_func ?_⟩
  have hloc : env.locals = s.heap.objs.size := by rw [he]; rfl
  have hcells : env.cells = cellsFrom (s.heap.objs.size + 1) fd.scope.names [] := by rw [he]; rfl
  have hko : ∀ z, env.kindOf z = bA fd.scope z := fun z => by rw [he]; rfl
  have dead : ∀ b, Fof (bA fd.scope) env b -> s.heap.get? b = none := fun b fb => by
   rcases fb with rfl | ⟨z, k, c⟩
   ·rw [hloc]; exact a8 (Nat.le_refl _)
   ·have := x.above z b (mem_of_lookup c)
    rw [hloc] at this
    exact a8 (Nat.le_of_lt this)
  have G : jU base (bA fd.scope) env :=
   ⟨S.base_none (dead _ (.inl rfl)), fun z c k l => S.base_none (dead _ (.inr ⟨z, k, l⟩)), fun z z' c _ _ l l' => name_of_addr x.apart (mem_of_lookup l) (mem_of_lookup l'), fun z c k l q => by
    have := x.above z c (mem_of_lookup l)
    rw [q] at this; exact Nat.lt_irrefl _ this, f4⟩
  have V : aP (bA fd.scope) ρ env μ H.next h1 := by
   refine ⟨by rw [he]; exact f1, by rw [he]; exact hgl, by rw [he]; exact hbl, hko, f5, f6, S.dead (dead _ (.inl rfl)), ⟨_, x.toInCall.ns, fun z v l k => ?_⟩, fun z k => ?_⟩
   ·obtain ⟨r, r1, r2⟩ := fN ea rv z v l
    refine ⟨r, ?_, r2.mono x1⟩
    rw [iR ((hko z).trans k) _ _ (by rw [keys]; exact f8), r1]; rfl
   ·have k' : bA fd.scope z = some .cell := by
     rcases k with k | k
     ·exact k
     ·exact absurd k (f4 z)
    have hs := dR fd.scope.names (s.heap.objs.size + 1) [] z (.inl (mem_of_lookup k'))
    obtain ⟨c, hc⟩ := Option.isSome_iff_exists.mp hs
    rw [<- hcells] at hc
    refine ⟨c, hc, S.dead (dead _ (.inr ⟨z, k', hc⟩)), _, x.cell z c hc, fun v l => ?_⟩
    obtain ⟨r, r1, r2⟩ := fN ea rv z v l
    refine ⟨r, ?_, r2.mono x1⟩
    rw [iS (by rw [hko z, k']; decide) _ _ (by rw [keys]; exact f8), r1]; rfl
  refine J (A.deeper env) _ { s with heap := h1, toks := tk } μ H H' _ ρ ρ' env body f _ (hRm env) G V S1 es fun μ2 h2 tk2 fl S2 x2 V2 r => ?_
  have x12 : Ext noF μ H.next s.heap μ2 H'.next h2 := (x1.any.trans x2).only fun b fb => .inr (dead b fb)
  rcases ef with ⟨rfl, rfl⟩ | rfl
  ·cases r; exact hq μ2 h2 tk2 .none S2 x12 .none
  ·cases r with
   | ret v rr vr => exact hq μ2 h2 tk2 rr S2 x12 vr
end
structure Prg where
 defs : List (Str × Arguments × List Stmt × Scope)
 inits : List (Str × Nat × List MV × Arguments × List Stmt × Scope)
 glob : Str -> Option MV
 okF : Nat -> Str -> Bool
noncomputable def mkI (cx : Cx) (c : Nat) (dv : List MV) (a : Arguments) (b : List Stmt) (s : Scope) (vs : List MV) : M MV := aa (newI c) fun x => aa (evF cx a b s (x :: (vs ++ dv))) fun r => match r with
 | .none => ac x
 | _ => ai
noncomputable def cxD (P : Prg) : Nat -> Cx
 | 0 => { okF := P.okF, glob := P.glob, tab := fun x => match ad P.defs x with
   | some _ => some fun _ => ai
   | none => match ad P.inits x with
    | some _ => some fun _ => ai
    | none => none }
 | d + 1 => { okF := P.okF, glob := P.glob, tab := fun x => match ad P.defs x with
   | some (a, b, s) => some fun vs => evF (cxD P d) a b s vs
   | none => match ad P.inits x with
    | some (c, dv, a, b, s) => some fun vs => mkI (cxD P d) c dv a b s vs
    | none => none }
theorem tF (P : Prg) : ∀ d, (cxD P d).okF = P.okF
 | 0 => rfl
 | _ + 1 => rfl
theorem qv (P : Prg) : ∀ d, (cxD P d).glob = P.glob
 | 0 => rfl
 | _ + 1 => rfl
structure wq (K : Frag) (ca : Nat -> Addr) (base : Heap) (mg : Str -> Option Value) (P : Prg) : Prop where
 fn : ∀ x a b s, ad P.defs x = some (a, b, s) -> ∃ fa, mg x = some (.ref fa) /\ keepIn K (.ref fa) = true /\ wu K fa a.args b s [] /\ rg s a.args = true
 cl : ∀ x c dv a b s, ad P.inits x = some (c, dv, a, b, s) -> ∃ fI dvr, mg x = some (.ref (ca c)) /\ keepIn K (.ref (ca c)) = true /\ makesIn K (ca c) = true /\ findIn K (.ref (ca c)) "__init__" = some (some (.ref fI)) /\ typeIn K (.ref fI) = some (.type "function") /\
  wu K fI a.args b s dvr /\ rg s a.args = true /\ ∀ (μ : Mp) (n : Nat) (h : Heap), ax μ n h dv dvr
 glob : ∀ x v, P.glob x = some v -> ∃ r, mg x = some r /\ ∀ (μ : Mp) (n : Nat) (h : Heap), (∀ b o, base.get? b = some o -> h.get? b = some o) -> (∀ b k, μ.own b = some k -> base.get? b = none) -> av μ n h v r
 free : ∀ f, f ∈ [f0, fZ, dL, a9, bX, aQ, ao] -> mg f = none
noncomputable def Rm (d : Nat) (A : Around) : Prop := A.handled = none /\ A.depth + 3 * d + 5 < recursionLimit /\ A.units + 10 * d + 100 < cLine
theorem rok (d : Nat) : Rok (Rm d) := ⟨fun _ h => h.1, fun _ h => by have := h.2.2; exact aK _ _ _ 0 (.a (.a (.a .x (.m 10 .z)) (.n 100)) (.n 1)) .y (.a (.a .x (.n 70)) (.n 1)) .y rfl this⟩
section
variable {okF : Nat -> Str -> Bool} {prog : Program} {w : World} {K : Frag} {ca : Nat -> Addr} {base : Heap} {mg mb : Str -> Option Value} {μ μ1 : Mp} {H H1 H' Hx : MH} {A : Around} {E : Value -> Shared -> Prop} {s : Shared} {P : Prg}
theorem kZ {C : Addr} {rest : List Value} {kw : List (Str × Value)} : (A.under (.builtin "type.__call__" ⟨.ref C :: rest, kw⟩)).handled = A.handled /\ (A.under (.builtin "type.__call__" ⟨.ref C :: rest, kw⟩)).depth <= A.depth + 1 /\ (A.under (.builtin "type.__call__" ⟨.ref C :: rest, kw⟩)).units <= A.units + 4 := by
 refine ⟨rfl, ?_, ?_⟩
 ·show A.depth + Code.weight _ <= _
  have : Code.weight (.builtin "type.__call__" ⟨.ref C :: rest, kw⟩) = 1 := by kernel_rfl
  exact aK _ _ 0 0 .y (.n 1) (.a .x .y) (.a .x (.n 1)) rfl (Nat.le_of_eq this)
 ·show A.units + Code.cUnits _ <= _
  have : Code.cUnits (.builtin "type.__call__" ⟨.ref C :: rest, kw⟩) = 1 := by kernel_rfl
  exact aK _ _ 0 0 .y (.n 1) (.a .x .y) (.a .x (.n 4)) rfl (Nat.le_of_eq this)
theorem mV {d : Nat} (h : Rm (d + 1) A) (env : Env) : Rm d (A.deeper env) := by
 obtain ⟨h1, h2, h3⟩ := h
 refine ⟨h1, ?_, ?_⟩
 ·show A.depth + 1 + 3 * d + 5 < _; exact aK _ _ _ 0 (.a (.a (.a .x (.m 3 (.a .y (.n 1)))) (.n 5)) (.n 1)) .z (.a (.a (.a (.a .x (.n 1)) (.m 3 .y)) (.n 5)) (.n 1)) .z rfl h2
 ·show A.units + 3 + 10 * d + 100 < _; exact aK _ _ _ 0 (.a (.a (.a .x (.m 10 (.a .y (.n 1)))) (.n 100)) (.n 1)) .z (.a (.a (.a (.a .x (.n 3)) (.m 10 .y)) (.n 100)) (.n 1)) .z rfl h3
theorem uZ (T : ck okF K ca base mg mb) {cx : Cx} {d : Nat} (J : gt prog w ca base cx (Rm d) 60) {c : Nat} {dv : List MV} {dvr : List Value} {fI : Addr} {p : Arguments} {body : List Stmt} {sc : Scope} {vs : List MV} {vvs : List Value} {m : MV} {Q : Value -> Shared -> Prop} (hA : Rm (d + 1) A)
  (hm : makesIn K (ca c) = true) (hi : findIn K (.ref (ca c)) "__init__" = some (some (.ref fI))) (hf : typeIn K (.ref fI) = some (.type "function")) (F : wu K fI p.args body sc dvr) (ok : rg sc p.args = true) (hdv : ∀ (μ : Mp) (n : Nat) (h : Heap), ax μ n h dv dvr)
  (S : Sim prog w ca base μ H s.heap) (rv : ax μ H.next s.heap vs vvs) (e : mkI cx c dv p body sc vs H = some (m, H')) (hq : Then prog w ca base μ H s H' m Q) : wpAny (model prog w) A (call (.ref (ca c)) vvs) Q E s := by
 refine ay fun X hX => ?_
 obtain ⟨hA1, hA2, hA3⟩ := hA
 have hA1' := hA1
 unfold mkI at e
 refine bC e fun x H1 e1 e2 => ?_
 unfold Mine.newI at e1
 obtain ⟨rfl, rfl⟩ := okI e1
 refine bC e2 fun r H2 e3 e4 => ?_
 obtain ⟨hh, g, dr, t, os⟩ := s
 dsimp only at S rv
 have X := T.X.keeps S.keeps
 have k : ∀ b o, hh.get? b = some o -> ((hh.push emptyDict).push (instObj (ca c) hh.objs.size)).get? b = some o := fun b o e => Heap.get?_push_of_some _ (Heap.get?_push_of_some _ e)
 have hx : ((hh.push emptyDict).push (instObj (ca c) hh.objs.size)).get? (hh.objs.size + 1) = some (instObj (ca c) hh.objs.size) := by
  have := Heap.get?_push_size (hh.push emptyDict) (o := instObj (ca c) hh.objs.size) rfl
  rwa [Heap.size_push] at this
 have hd : ((hh.push emptyDict).push (instObj (ca c) hh.objs.size)).get? hh.objs.size = some (dictOf [] 0) := Heap.get?_push_of_some _ (Heap.get?_push_size hh (o := emptyDict) rfl)
 obtain ⟨S1, x1⟩ := S.newI (c := c) (D := hh.objs.size + 1) (d := hh.objs.size) k (a8 (Nat.le_succ _)) (a8 (Nat.le_refl _)) hx hd
 have at1 : (μ.add H.next (hh.objs.size + 1) hh.objs.size).at_ H.next = hh.objs.size + 1 := if_pos rfl
 have vx : av (μ.add H.next (hh.objs.size + 1) hh.objs.size) (H.next + 1) ((hh.push emptyDict).push (instObj (ca c) hh.objs.size)) (.ins c H.next) (.ref (hh.objs.size + 1)) := by
  have := av.ins (μ := μ.add H.next (hh.objs.size + 1) hh.objs.size) (n := H.next + 1) (h := (hh.push emptyDict).push (instObj (ca c) hh.objs.size)) c H.next (Nat.lt_succ_self _)
  rwa [at1] at this
 obtain ⟨u1, u2, u3⟩ := @kZ A (ca c) vvs []
 refine hX ?_
 refine wpAny_call (make_core (makes_of X hm) (looks_findIn X hi) (fun self => bind_fn X self hf) (.inl rfl) ?_)
 refine og T J (vals := .ref (hh.objs.size + 1) :: vvs) (dv := dvr) (by exact bu _ _ _ _ (.a (.a (.a .z (.m 3 (.a .w (.n 1)))) (.n 5)) (.n 1)) .y .x (.a .z (.n 1)) (.a .x (.n 1)) .y rfl hA2 u2) (fun env => ⟨by rw [<- hA1]; exact u1, by show _ + 1 + 3 * d + 5 < _; exact bu _ _ _ _ (.a (.a (.a .w (.m 3 (.a .y (.n 1)))) (.n 5)) (.n 1)) .z .x (.a .w (.n 1)) (.a (.a (.a (.a .x (.n 1)) (.m 3 .y)) (.n 5)) (.n 1)) .z rfl hA2 u2, by show _ + 3 + 10 * d + 100 < _; exact bu _ _ _ _ (.a (.a (.a .w (.m 10 (.a .y (.n 1)))) (.n 100)) (.n 1)) .z .x (.a .w (.n 4)) (.a (.a (.a (.a .x (.n 3)) (.m 10 .y)) (.n 100)) (.n 1)) .z rfl hA3 u3⟩) F ok S1 ?_ e3 fun μ2 h2 tk2 rr S2 x2 v2 => ?_
 ·exact .cons vx (ax.app (hdv _ _ _) (rv.mono x1))
 ·cases r with
  | none =>
   refine ay fun X hX => ?_
   obtain ⟨_, rfl⟩ := v2.view
   obtain ⟨rfl, rfl⟩ := okI e4
   refine hX ?_
   exact ⟨rfl, hq μ2 h2 tk2 _ S2 (x1.trans x2) (vx.mono x2)⟩
  | _ => exact nos e4
theorem rZ (T : ck P.okF K ca base mg mb) (G : wq K ca base mg P) : ∀ d, qV prog w ca base mg (cxD P d) (Rm d) := by
 have kp : ∀ fv, keepIn K fv = true -> ∀ (M : Model) (h : Heap), (∀ b o, base.get? b = some o -> h.get? b = some o) -> ∃ k, (k = Keeper.frame \/ k = Keeper.machine \/ k = Keeper.boundFrame) /\ Looks M h (keeperOf fv) k := fun fv hk M h keep => keeps_K hk h (T.X.keeps keep)
 have free : ∀ d, ∀ f, f ∈ [f0, fZ, dL, a9, bX, aQ, ao] -> (cxD P d).tab f = none -> mg f = none := fun d f h _ => G.free f h
 have glob : ∀ d x v, (cxD P d).glob x = some v -> ∃ r, mg x = some r /\ ∀ (μ : Mp) (n : Nat) (h : Heap), (∀ b o, base.get? b = some o -> h.get? b = some o) -> (∀ b k, μ.own b = some k -> base.get? b = none) -> av μ n h v r := fun d x v e => G.glob x v (by rw [qv] at e; exact e)
 intro d
 induction d with
 | zero =>
  refine ⟨glob 0, fun f g e => ?_, free 0⟩
  have e : (match ad P.defs f with
   | some _ => some fun _ => ai
   | none => match ad P.inits f with
    | some _ => some fun _ => ai
    | none => none) = some g := e
  cases q : ad P.defs f with
  | some y =>
   refine ay fun X hX => ?_
   obtain ⟨a, b, s⟩ := y
   rw [q] at e
   obtain rfl := Option.some.inj e
   obtain ⟨fa, h1, h2, _⟩ := G.fn f a b s q
   refine hX ?_
   exact ⟨_, h1, kp _ h2, fun A E s μ H H' Q vs vvs m _ _ _ e => by cases e⟩
  | none =>
   rw [q] at e
   cases q2 : ad P.inits f with
   | some y =>
    refine ay fun X hX => ?_
    obtain ⟨c, dv, a, b, s⟩ := y
    rw [q2] at e
    obtain rfl := Option.some.inj e
    obtain ⟨fI, dvr, h1, h2, _⟩ := G.cl f c dv a b s q2
    refine hX ?_
    exact ⟨_, h1, kp _ h2, fun A E s μ H H' Q vs vvs m _ _ _ e => by cases e⟩
   | none => rw [q2] at e; exact nos e
 | succ d ih =>
  have J : gt prog w ca base (cxD P d) (Rm d) 60 := (pF (by rw [tF]; exact T) ih (rok d) 60).2
  refine ⟨glob (d + 1), fun f g e => ?_, free (d + 1)⟩
  have e : (match ad P.defs f with
   | some (a, b, s) => some fun vs => evF (cxD P d) a b s vs
   | none => match ad P.inits f with
    | some (c, dv, a, b, s) => some fun vs => mkI (cxD P d) c dv a b s vs
    | none => none) = some g := e
  cases q : ad P.defs f with
  | some y =>
   refine ay fun X hX => ?_
   obtain ⟨a, b, s⟩ := y
   rw [q] at e
   obtain rfl := Option.some.inj e
   obtain ⟨fa, h1, h2, h3, h4⟩ := G.fn f a b s q
   refine hX ?_
   refine ⟨_, h1, kp _ h2, fun A E s μ H H' Q vs vvs m hA S rv e hq => ?_⟩
   have hA2 := hA.2.1
   exact wpAny_call (og T J (dv := []) (by exact aK _ _ _ 0 (.a (.a (.a .x (.m 3 (.a .z (.n 1)))) (.n 5)) (.n 1)) .y (.a .x (.n 1)) .y rfl hA2) (mV hA) h3 h4 S (by rw [List.append_nil]; exact rv) e fun μ' h' tk r S' x' v' => hq μ' h' tk r S' x' v')
  | none =>
   rw [q] at e
   cases q2 : ad P.inits f with
   | some y =>
    refine ay fun X hX => ?_
    obtain ⟨c, dv, a, b, s⟩ := y
    rw [q2] at e
    obtain rfl := Option.some.inj e
    obtain ⟨fI, dvr, h1, h2, h3, h4, h5, h6, h7, h8⟩ := G.cl f c dv a b s q2
    refine hX ?_
    exact ⟨_, h1, kp _ h2, fun A E s μ H H' Q vs vvs m hA S rv e hq => uZ T J hA h3 h4 h5 h6 h7 h8 S rv e hq⟩
   | none => rw [q2] at e; exact nos e
end
noncomputable def gO (tb : String -> Option Builtin) (p : Program) (w : World) (n₀ : Nat) (ann : Option Value) : Nat -> SharedT -> Thread -> Option SharedT
 | 0, _, _ => none
 | n + 1, s, t => match through t with
  | true => some s
  | false => match stepOk n₀ ann t with
   | false => none
   | true => match stepT (denote tb) p w s t with
    | some (s', t') => gO tb p w n₀ ann n s' t'
    | none => none
theorem ig {tb : String -> Option Builtin} {p : Program} {w : World} {n₀ : Nat} {ann : Option Value} (n : Nat) : ∀ (s : SharedT) (t : Thread) (s₁ : SharedT), gO tb p w n₀ ann n s t = some s₁ -> topRun tb p w n₀ ann n s.abs t = some s₁.abs := by
 induction n with
 | zero => intro _ _ _ h; cases h
 | succ n ih =>
  intro s t s₁ h
  unfold gO at h
  unfold topRun
  cases ht : through t with
  | true => rw [ht] at h; obtain rfl := Option.some.inj h; rfl
  | false =>
   rw [ht] at h
   cases hk : stepOk n₀ ann t with
   | false => rw [hk] at h; cases h
   | true =>
    rw [hk] at h
    cases hs : stepT (denote tb) p w s t with
    | none => rw [hs] at h; cases h
    | some r =>
     obtain ⟨s', t'⟩ := r
     rw [hs] at h
     dsimp only
     rw [stepT_spec hs]
     exact ih s' t' s₁ h
noncomputable def ux : List Obj -> Nat -> BT -> Option BT
 | [], _, t => some t
 | o :: r, i, t => match ((t.ins i o).get i).isSome with
  | true => ux r (i + 1) (t.ins i o)
  | false => none
theorem oh {life : Life} (l : List Obj) : ∀ (i : Nat) (t t' : BT), ux l i t = some t' -> absHeap t' (i + l.length) life = l.foldl Heap.push (absHeap t i life) := by
 induction l with
 | nil => intro _ _ _ h; obtain rfl := Option.some.inj h; rfl
 | cons o r ih0 =>
  intro i t t' h
  unfold ux at h
  cases q : ((t.ins i o).get i).isSome with
  | false => rw [q] at h; cases h
  | true =>
   rw [q] at h
   have ih := ih0 (i + 1) _ t' h
   rw [List.foldl_cons, <- absHeap_ins q, <- ih, List.length_cons, show i + 1 + r.length = i + (r.length + 1) by exact Nat.le_antisymm (iE _ _ 0 0 (.a (.a .x (.n 1)) .y) (.a .x (.a .y (.n 1))) rfl) (iE _ _ 0 0 (.a .x (.a .y (.n 1))) (.a (.a .x (.n 1)) .y) rfl)]
theorem lN {life : Life} : ∀ (l : List Obj) (a : Array Obj), l.foldl Heap.push ⟨a, life⟩ = ⟨a ++ l.toArray, life⟩ := by
 intro l
 induction l with
 | nil => exact fun a => rfl
 | cons o r ih =>
  intro a
  rw [List.foldl_cons]
  show r.foldl Heap.push ⟨a.push o, life⟩ = _
  rw [ih]
  simp
theorem qz {l : List Obj} {t : BT} {life : Life} (h : ux l 0 .nil = some t) : absHeap t l.length life = ⟨l.toArray, life⟩ := by
 have := oh (life := life) l 0 .nil t h
 rw [Nat.zero_add] at this
 rw [this, show absHeap .nil 0 life = ⟨#[], life⟩ from rfl, lN]
 simp
structure o5 (α : Type) where
 flat : Shared -> α
 tree : SharedT -> α
 same : ∀ s : SharedT, flat s.abs = tree s
noncomputable def oe (tb : String -> Option Builtin) (p q : Program) (loose : List Str) (Xt : Shared -> Bool) {α : Type} (Y : o5 α) (N : Nat) (w : World) (os : OsState) :=
 match ux (boot_heap w.params).objs.toList 0 .nil with
 | some t => (gO tb p w (boot_heap w.params).objs.size ((boot_heap w.params).nsMap mainGlobals "__annotations__") N ⟨t, (boot_heap w.params).objs.toList.length, (boot_heap w.params).life, #[], boot_drawn, boot_toks, os⟩ (topStub p)).map fun (sT : SharedT) =>
   (staticsOk (importedModules p.main.body) (boot_heap w.params) sT.abs.heap && namesBound p sT.abs.heap && gensDone sT.abs && laidKept (boot_heap w.params) sT.abs.heap, openSeen q loose (importedModules p.main.body) Xt true sT.abs, Y.tree sT)
 | none => none
theorem iF {p q : Program} {loose : List Str} {Xt : Shared -> Bool} {α : Type} {Y : o5 α} {Ya : World -> α} {N : Nat} (e : opening p = plainProg p.main.scope.names) (hN : Nat.ble 600 N = true) (f : ∀ s, fenceModules? p s = some s)
  (g : ∀ w : World, ((boot_heap w.params).isNs mainGlobals) = true) (h : ∀ (w : World) (os : OsState), oe treeTable p q loose Xt Y N w os = some (true, openGood q loose, Ya w)) : LeftO p q loose Xt Y.flat Ya N := by
 intro w
 obtain ⟨s, hs, hv⟩ := Option.map_eq_some_iff.mp (boot_open (p := p) (N := N) e hN f w)
 obtain ⟨hp, gs, dr, tk, os⟩ := s
 simp only [Prod.mk.injEq] at hv
 obtain ⟨rfl, rfl, rfl, rfl⟩ := hv
 have c := h w os
 unfold oe at c
 cases qb : ux (boot_heap w.params).objs.toList 0 .nil with
 | none => rw [qb] at c; cases c
 | some t =>
  rw [qb] at c
  obtain ⟨sT, r1, r2⟩ := Option.map_eq_some_iff.mp c
  have ab := qz (life := (boot_heap w.params).life) qb
  have run := ig _ _ _ _ r1
  have e0 : (SharedT.mk t (boot_heap w.params).objs.toList.length (boot_heap w.params).life #[] boot_drawn boot_toks os).abs = ⟨boot_heap w.params, Array.mk [], boot_drawn, boot_toks, os⟩ := by
   show Shared.mk (absHeap t _ _) _ _ _ _ = _
   rw [ab]
  rw [e0] at run
  simp only [Prod.mk.injEq] at r2
  obtain ⟨c1, c2, c3⟩ := r2
  unfold openEnds
  rw [hs]
  show ((topFrom treeTable p w N _).map _) = _
  unfold topFrom
  dsimp only
  rw [show ((boot_heap w.params).isNs mainGlobals && (Array.mk ([] : List GenState)).size == 0) = true by rw [g w]; rfl]
  dsimp only
  rw [run]
  show (Option.map _ (match (staticsOk (importedModules p.main.body) (boot_heap w.params) sT.abs.heap && namesBound p sT.abs.heap && gensDone sT.abs && laidKept (boot_heap w.params) sT.abs.heap) with
   | true => some sT.abs
   | false => none)) = _
  rw [c1]
  show some (openSeen q loose (importedModules p.main.body) Xt true sT.abs, Y.flat sT.abs) = _
  rw [c2, Y.same, c3]
noncomputable def sM (v : Value) : List Addr := match v with
 | .ref a => [a]
 | _ => []
noncomputable def sL (o : Obj) : List Addr := match o.data with
 | .dict es _ => es.toList.flatMap fun e => sM e.val
 | .func fd => sM fd.code ++ sM fd.defaults
 | .cls cd => [cd.ns]
 | _ => []
noncomputable def ee (get : Addr -> Option Obj) (as : List Addr) : Frag := as.filterMap fun a => (get a).map (a, ·)
noncomputable def kB (K : Frag) : List Addr := K.flatMap fun p => sL p.2
noncomputable def nN (get : Addr -> Option Obj) : Frag :=
 let k0 := ee get [mainGlobals]
 let k1 := ee get (kB k0)
 let k2 := ee get (kB k1)
 let k3 := ee get (kB k2)
 let k4 := ee get (kB k3)
 k0 ++ (k1 ++ (k2 ++ (k3 ++ k4)))
theorem pY {get : Addr -> Option Obj} {as : List Addr} : ∀ p ∈ ee get as, get p.1 = some p.2 := by
 intro p hp
 obtain ⟨a, _, e⟩ := List.mem_filterMap.mp hp
 obtain ⟨o, ho, rfl⟩ := Option.map_eq_some_iff.mp e
 exact ho
theorem tz {h : Heap} : (nN h.get?).In h := by
 intro a o e
 have hm : (a, o) ∈ nN h.get? := by
  have : ∀ (l : List (Addr × Obj)), l.lookup a = some o -> (a, o) ∈ l := by
   intro l
   induction l with
   | nil => intro e; exact nos e
   | cons p l ih =>
    obtain ⟨b, x⟩ := p
    intro e
    rw [List.lookup_cons] at e
    cases q : a == b with
    | true => rw [q] at e; obtain rfl := Option.some.inj e; rw [beq_iff_eq.mp q]; exact List.mem_cons_self
    | false => rw [q] at e; exact List.mem_cons_of_mem _ (ih e)
  exact this _ e
 unfold nN at hm
 simp only [List.mem_append] at hm
 rcases hm with hm | hm | hm | hm | hm <;> exact pY _ hm
noncomputable def nW (b : List Stmt) : List (Str × Arguments × List Stmt × Scope) := b.filterMap fun
 | .FunctionDef n a b _ _ _ s _ _ _ => some (n, a, b, s)
 | _ => none
noncomputable def u8 (b : List Stmt) : Option (Arguments × List Stmt × Scope) := match b with
 | .FunctionDef _ a b _ _ _ s _ _ _ :: _ => some (a, b, s)
 | _ => none
noncomputable def oa (names : List Str) (b : List Stmt) : List (Str × Arguments × List Stmt × Scope) := b.filterMap fun
 | .ClassDef n _ _ b _ _ _ _ _ _ _ => if names.contains n then (u8 b).map fun x => (n, x) else none
 | _ => none
noncomputable def wz (v : Value) : Option Addr := match v with
 | .ref a => some a
 | _ => none
noncomputable def w9 (o : Obj) : Option (List Value) := match o.data with
 | .seq vs _ => some vs.toList
 | _ => none
noncomputable def oFn (o : Obj) : Option FuncData := match o.data with
 | .func fd => some fd
 | _ => none
noncomputable def bSt (b : FuncBody) : Option (List Stmt) := match b with
 | .stmts b => some b
 | _ => none
theorem jc {v : Value} {a : Addr} (e : wz v = some a) : v = .ref a := by
 cases v with
 | ref b => exact congrArg _ (Option.some.inj e)
 | _ => exact nos e
theorem nj {o : Obj} {l : List Value} (e : w9 o = some l) : ∃ vs n, o.data = .seq vs n /\ vs.toList = l := by
 obtain ⟨_, _, d, _⟩ := o
 cases d with
 | seq vs n => exact ⟨vs, n, rfl, Option.some.inj e⟩
 | _ => exact nos e
theorem uY {o : Obj} {fd : FuncData} (e : oFn o = some fd) : o = ⟨o.cls, o.dict, .func fd, o.slots⟩ := by
 obtain ⟨_, _, d, _⟩ := o
 cases d with
 | func f => rw [Option.some.inj e]
 | _ => exact nos e
theorem vz {b : FuncBody} {l : List Stmt} (e : bSt b = some l) : b = .stmts l := by
 cases b with
 | stmts f => exact congrArg _ (Option.some.inj e)
 | _ => exact nos e
noncomputable def ox (K : Frag) (x : Str) : Option Addr := (nsIn K mainGlobals x).bind fun o => o.bind wz
noncomputable def vn (K : Frag) (v : Value) : Option (List Value) := if v = .none then some [] else (wz v).bind fun T => (K.lookup T).bind w9
noncomputable def fnK (K : Frag) (a : Addr) : Option ((Arguments × List Stmt × Scope) × List Value) := (K.lookup a).bind fun o => (oFn o).bind fun fd => (bSt fd.body).bind fun b => (vn K fd.defaults).bind fun dv =>
 if fd.globals = mainGlobals /\ fd.builtins = builtinsNs /\ fd.closure.isEmpty = true /\ codeIn K fd.code fd.qualname = true then some ((fd.params, b, fd.scope), dv) else none
noncomputable def j9 (a : Arguments) : Bool := a.posonlyargs.isEmpty && a.vararg.isNone && a.kwonlyargs.isEmpty && a.kwarg.isNone
theorem fT {P : Prop} (h : false = true) : P := nomatch h
theorem mY {a : Arguments} (h : j9 a = true) : a = ⟨[], a.args, none, [], a.kw_defaults, none, a.defaults⟩ := by
 obtain ⟨a1, a2, a3, a4, a5, a6, a7⟩ := a
 cases a1 with
 | cons _ _ => exact fT h
 | nil => cases a3 with
  | some _ => exact fT h
  | none => cases a4 with
   | cons _ _ => exact fT h
   | nil => cases a6 with
    | some _ => exact fT h
    | none => rfl
noncomputable def yv (v : Value) : Option MV := match v with
 | .int i _ => some (.int i)
 | _ => none
noncomputable def yu (v : Value) : Option MV := match v with
 | .str i _ => some (.str i)
 | _ => none
noncomputable def xf (f : Value -> Option MV) (l : List Value) : Option (List MV) := l.foldr (fun v r => (f v).bind fun m => r.map (m :: ·)) (some [])
noncomputable def xc (l : List Value) : Option (List MV) := xf yv l
noncomputable def tv (K : Frag) (x : Str) : Option MV := (nsIn K mainGlobals x).bind fun o => o.bind fun v => match v with
 | .int i _ => some (.int i)
 | .str s _ => some (.str s)
 | .ref a => (K.lookup a).bind fun o => if o.cls = .type "tuple" then (w9 o).bind fun vs => (xf yu vs).map .tup else none
 | _ => none
theorem rE {K : Frag} {a : Addr} {p : Arguments} {b : List Stmt} {s : Scope} {dv : List Value} (e : fnK K a = some ((p, b, s), dv)) (hp : j9 p = true) : wu K a p.args b s dv := by
 refine obC e fun o ho e => ?_
 refine obC e fun fd hf e => ?_
 refine obC e fun b' hb e => ?_
 refine obC e fun dv' hd e => ?_
 obtain ⟨⟨c1, c2, c3, c4⟩, e⟩ := itI e
 rw [uY hf] at ho
 cases e
 refine ⟨fd, _, _, _, _, _, ho, mY hp, vz hb, rfl, c1, c2, List.isEmpty_iff.mp c3, ?_, c4⟩
 unfold vn at hd
 by_cases q : fd.defaults = .none
 ·rw [if_pos q] at hd
  exact .inl ⟨q, (Option.some.inj hd).symm⟩
 ·rw [if_neg q] at hd
  refine obC hd fun T q1 hd => ?_
  refine obC hd fun o q2 hd => ?_
  obtain ⟨vs, n, q3, q4⟩ := nj hd
  rw [<- q4]
  exact .inr ⟨T, o, n, jc q1, q2, q3⟩
noncomputable def bR (K : Frag) (names : List Str) : List (Option Addr) := names.map (ox K)
noncomputable def caK (as : List (Option Addr)) (c : Nat) : Addr := match as[c]? with
 | some (some a) => a
 | _ => 1000000000 + c
noncomputable def far (as : List (Option Addr)) : Bool := as.all fun a => match a with
 | some a => decide (a < 1000000000)
 | none => false
theorem vw {as : List (Option Addr)} (h1 : far as = true) (h2 : as.Nodup) : ∀ c c', caK as c = caK as c' -> c = c' := by
 have get : ∀ c, (∃ a, as[c]? = some (some a) /\ caK as c = a /\ a < 1000000000) \/ (as[c]? = none /\ caK as c = 1000000000 + c) := by
  intro c
  unfold caK
  cases q : as[c]? with
  | none => exact .inr ⟨rfl, rfl⟩
  | some a =>
   have hm : a ∈ as := List.mem_of_getElem? q
   have := List.all_eq_true.mp h1 a hm
   cases a with
   | none => cases this
   | some a => exact .inl ⟨a, rfl, rfl, of_decide_eq_true this⟩
 intro c c' e
 rcases get c with ⟨a, a1, a2, a3⟩ | ⟨a1, a2⟩ <;> rcases get c' with ⟨b, b1, b2, b3⟩ | ⟨b1, b2⟩
 ·rw [a2, b2] at e
  subst e
  have hc : c < as.length := (List.getElem?_eq_some_iff.mp a1).1
  exact (List.getElem?_inj hc h2).mp (a1.trans b1.symm)
 ·have e : (a : Nat) = 1000000000 + c' := a2.symm.trans (e.trans b2)
  exact absurd e (Nat.ne_of_lt (Nat.lt_of_lt_of_le a3 (Nat.le_add_right _ _)))
 ·have e : (1000000000 + c : Nat) = b := a2.symm.trans (e.trans b2)
  exact absurd e.symm (Nat.ne_of_lt (Nat.lt_of_lt_of_le b3 (Nat.le_add_right _ _)))
 ·have e : (1000000000 + c : Nat) = 1000000000 + c' := a2.symm.trans (e.trans b2)
  exact Nat.add_left_cancel e
structure ui where
 names : List Str
 fields : List Str
 gl : List (Str × MV)
 dv : Str -> List MV
noncomputable def sN (D : ui) (b : List Stmt) : Prg where
 defs := nW b
 inits := (oa D.names b).zipIdx.map fun (x, i) => (x.1, i, D.dv x.1, x.2)
 glob := ad D.gl
 okF := fun c n => decide (c < D.names.length) && D.fields.contains n
noncomputable def yy (D : ui) (K : Frag) (as : List (Option Addr)) (i : Nat) (x : Str) : Option ((Arguments × List Stmt × Scope) × Option (List MV)) :=
 (ox K x).bind fun a => (findIn K (.ref (caK as i)) "__init__").bind fun o => o.bind fun v => (wz v).bind fun fI =>
  if a = caK as i /\ keepIn K (.ref a) = true /\ makesIn K a = true /\ typeIn K (.ref fI) = some (.type "function") then (fnK K fI).bind fun r => some (r.1, xc r.2) else none
noncomputable def gV (D : ui) (b : List Stmt) (K : Frag) : List (Option ((Arguments × List Stmt × Scope) × List Value)) × List (Option ((Arguments × List Stmt × Scope) × Option (List MV))) × List (Option MV) × Bool :=
 let as := bR K D.names
 ((nW b).map fun d => (ox K d.1).bind fun a => if keepIn K (.ref a) then fnK K a else none,
 (oa D.names b).zipIdx.map fun (x, i) => yy D K as i x.1,
 D.gl.map fun g => tv K g.1,
 far as && decide as.Nodup && (List.range D.names.length).all (fun c => D.fields.all fun n => plainGet K (caK as c) n && hasDictIn K (caK as c) && findIn K (.ref (caK as c)) n == some none && findIn K (.ref (caK as c)) "__setattr__" == some (some (.builtin "object.__setattr__")) && plainOver K (caK as c)) &&
  [f0, fZ, dL, a9, bX, aQ, ao].all (fun f => nsIn K mainGlobals f == some none))
noncomputable def iI (D : ui) (b : List Stmt) : List (Option ((Arguments × List Stmt × Scope) × List Value)) × List (Option ((Arguments × List Stmt × Scope) × Option (List MV))) × List (Option MV) × Bool :=
 ((nW b).map fun d => some (d.2, ([] : List Value)),
 (oa D.names b).map fun x => some (x.2, some (D.dv x.1)),
 D.gl.map fun g => some g.2,
 true)
noncomputable def j6 (D : ui) (b : List Stmt) : Bool := ((nW b).all fun d => j9 d.2.1 && rg d.2.2.2 d.2.1.args) && ((oa D.names b).all fun d => j9 d.2.1 && rg d.2.2.2 d.2.1.args)
theorem bQ {α : Type} : ∀ {l : List (Str × α)} {x : Str} {v : α}, ad l x = some v -> (x, v) ∈ l := by
 intro l
 induction l with
 | nil => intro x v e; exact nos e
 | cons q l ih =>
  obtain ⟨a, u⟩ := q
  intro x v e
  change (if x = a then some u else ad l x) = _ at e
  by_cases q : x = a
  ·rw [if_pos q] at e; obtain rfl := Option.some.inj e; rw [q]; exact List.mem_cons_self
  ·rw [if_neg q] at e; exact List.mem_cons_of_mem _ (ih e)
section
variable {K : Frag} {base : Heap} {mg mb : Str -> Option Value} {D : ui} {b : List Stmt}
set_option tactic.hygienic true in
theorem sY (X : K.In base) (N : base.Ns mainGlobals mg) {x : Str} {r : Option Value} (e : nsIn K mainGlobals x = some r) : mg x = r := by
 obtain ⟨o, es, ep, ho, hd, hk, hm⟩ := N
 rw [<- hm x]
 unfold nsIn at e
 cases q : K.lookup mainGlobals with
 | none => rw [q] at e; exact nos e
 | some o' =>
  rw [q] at e
  obtain rfl := Option.some.inj (ho.symm.trans (X _ _ q))
  obtain ⟨_, _, d, _⟩ := o
  cases hd
  unfold nsFind findBy
  rw [<- Array.find?_toList]
  change Option.map _ (es.toList.find? fun e => e.key.isStr x) = _
  dsimp only at e
  cases hf : es.toList.find? fun e => e.key.isStr x with
  | some en => rw [hf] at e; exact Option.some.inj e
  | none =>
   rw [hf] at e
   dsimp only at e
   by_cases c : es.toList.any (·.refKey) = true
   ·rw [if_pos c] at e; exact nos e
   ·rw [if_neg c] at e; exact Option.some.inj e
theorem ou (X : K.In base) (N : base.Ns mainGlobals mg) {x : Str} {a : Addr} (e : ox K x = some a) : mg x = some (.ref a) := by
 refine obC e fun o q e1 => ?_
 obtain ⟨v, rfl, e2⟩ := obI e1
 rw [<- jc e2]
 exact sY X N q
theorem ot {μ : Mp} {n : Nat} {h : Heap} {f : Value -> Option MV} (hf : ∀ v m, f v = some m -> av μ n h m v) {vs : List Value} : ∀ {ms : List MV}, xf f vs = some ms -> ax μ n h ms vs := by
 induction vs with
 | nil => intro ms e; obtain rfl := Option.some.inj e; exact .nil
 | cons v vs ih =>
  intro ms e
  refine obC e fun m e1 e => ?_
  obtain ⟨r, e2, rfl⟩ := Option.map_eq_some_iff.mp e
  exact .cons (hf v m e1) (ih e2)
theorem nI {μ : Mp} {n : Nat} {h : Heap} (v : Value) (m : MV) (e : yv v = some m) : av μ n h m v := by
 cases v with
 | int i t => rw [<- Option.some.inj e]; exact .int i t
 | _ => exact nos e
theorem my {μ : Mp} {n : Nat} {h : Heap} (v : Value) (m : MV) (e : yu v = some m) : av μ n h m v := by
 cases v with
 | str i t => rw [<- Option.some.inj e]; exact .str i t
 | _ => exact nos e
theorem qk (X : K.In base) (N : base.Ns mainGlobals mg) {x : Str} {v : MV} (e : tv K x = some v) :
  ∃ r, mg x = some r /\ ∀ (μ : Mp) (n : Nat) (h : Heap), (∀ b o, base.get? b = some o -> h.get? b = some o) -> (∀ b k, μ.own b = some k -> base.get? b = none) -> av μ n h v r := by
 refine obC e fun o q e1 => ?_
 obtain ⟨r, rfl, e⟩ := obI e1
 clear e1
 refine ⟨r, sY X N q, fun μ n h keep mine => ?_⟩
 cases r with
 | int i t => exact nI (.int i t) _ e
 | str i t => exact my (.str i t) _ e
 | ref a =>
  refine obC e fun o ho e => ?_
  refine itC e fun hc e => ?_
  refine obC e fun l hl e => ?_
  obtain ⟨ms, e1, rfl⟩ := Option.map_eq_some_iff.mp e
  obtain ⟨vs, n', d, rfl⟩ := nj hl
  have z := X _ _ ho
  obtain ⟨oc, dd, od, sl⟩ := o
  change oc = _ at hc
  change od = _ at d
  subst hc d
  refine .tup (keep _ _ z : h.get? a = some (w0 vs.toList n' dd sl)) ?_ (ot my e1)
  cases y : μ.own a with
  | none => rfl
  | some k => exact nos ((mine a k y).symm.trans z)
 | _ => exact nos e
theorem lz (e : gV D b K = iI D b) :
  (∀ d ∈ nW b, ((ox K d.1).bind fun a => if keepIn K (.ref a) then fnK K a else none) = some (d.2, [])) /\
  (∀ p ∈ (oa D.names b).zipIdx, yy D K (bR K D.names) p.2 p.1.1 = some (p.1.2, some (D.dv p.1.1))) /\
  (∀ g ∈ D.gl, tv K g.1 = some g.2) := by
 unfold gV iI at e
 simp only [Prod.mk.injEq] at e
 obtain ⟨e1, e2, e3, e4⟩ := e
 refine ⟨fun d hd => (List.map_inj_left.mp e1) d hd, fun p hp => ?_, fun g hg => (List.map_inj_left.mp e3) g hg⟩
 have z : (oa D.names b).map (fun x => some (x.2, some (D.dv x.1))) = (oa D.names b).zipIdx.map (fun p => some (p.1.2, some (D.dv p.1.1))) := by
  conv => lhs; rw [<- List.zipIdx_map_fst 0 (oa D.names b)]
  rw [List.map_map]; rfl
 rw [z] at e2
 exact (List.map_inj_left.mp e2) p hp
theorem gz (e : gV D b K = iI D b) : far (bR K D.names) = true /\ (bR K D.names).Nodup /\
  (∀ c, c < D.names.length -> ∀ n ∈ D.fields, plainGet K (caK (bR K D.names) c) n = true /\ hasDictIn K (caK (bR K D.names) c) = true /\ findIn K (.ref (caK (bR K D.names) c)) n = some none /\
   findIn K (.ref (caK (bR K D.names) c)) "__setattr__" = some (some (.builtin "object.__setattr__")) /\ plainOver K (caK (bR K D.names) c) = true) /\
  (∀ f ∈ [f0, fZ, dL, a9, bX, aQ, ao], nsIn K mainGlobals f = some none) := by
 unfold gV iI at e
 simp only [Prod.mk.injEq] at e
 obtain ⟨_, _, _, e⟩ := e
 refine dA e fun e e4 => ?_
 refine dA e fun e e3 => ?_
 refine dA e fun e1 e2 => ?_
 refine ⟨e1, of_decide_eq_true e2, fun c hc n hn => ?_, fun f hf => ?_⟩
 ·have := List.all_eq_true.mp (List.all_eq_true.mp e3 c (List.mem_range.mpr hc)) n hn
  simp only [Bool.and_eq_true, beq_iff_eq] at this
  obtain ⟨⟨⟨⟨a1, a2⟩, a3⟩, a4⟩, a5⟩ := this
  exact ⟨a1, a2, a3, a4, a5⟩
 ·exact beq_iff_eq.mp (List.all_eq_true.mp e4 f hf)
theorem je (X : K.In base) (g : base.Ns mainGlobals mg) (hb : base.Ns builtinsNs mb) (lim : base.NoLimit) (bi : ∀ x : Str, x ≠ "__name__" -> mb x = bootBuiltins x) (sm : (base.get? sysModules).isSome = true) (e : gV D b K = iI D b) :
  ck (sN D b).okF K (caK (bR K D.names)) base mg mb := by
 obtain ⟨f1, f2, f3, f4⟩ := gz e
 refine ⟨X, g, hb, lim, bi, sm, vw f1 f2, fun c n ok => ?_⟩
 refine dA ok fun o1 o2 => ?_
 exact f3 c (of_decide_eq_true o1) n (by simpa using o2)
set_option tactic.hygienic true in
theorem jr (X : K.In base) (g : base.Ns mainGlobals mg) (e : gV D b K = iI D b) (sc : j6 D b = true) : wq K (caK (bR K D.names)) base mg (sN D b) := by
 obtain ⟨p1, p2, p3⟩ := lz e
 obtain ⟨f1, f2, f3, f4⟩ := gz e
 refine dA sc fun s1 s2 => ?_
 refine ⟨fun x a bd s h => ?_, fun x c dv a bd s h => ?_, fun x v h => qk X g (p3 (x, v) (bQ h)), fun f hf => sY X g (f4 f hf)⟩
 ·have hm := bQ h
  have q := p1 _ hm
  obtain ⟨fa, q1, q2⟩ := Option.bind_eq_some_iff.mp q
  dsimp only at q1 q2
  by_cases hk : keepIn K (.ref fa) = true
  ·rw [if_pos hk] at q2
   obtain ⟨sa, sb⟩ := Bool.and_eq_true_iff.mp (List.all_eq_true.mp s1 _ hm)
   exact ⟨fa, ou X g q1, hk, rE q2 sa, sb⟩
  ·rw [if_neg hk] at q2; exact nos q2
 ·have hm := bQ h
  obtain ⟨⟨y, i⟩, hy, ey⟩ := List.mem_map.mp (show (x, c, dv, a, bd, s) ∈ (oa D.names b).zipIdx.map (fun (x, i) => (x.1, i, D.dv x.1, x.2)) from hm)
  simp only [Prod.mk.injEq] at ey
  obtain ⟨rfl, rfl, rfl, ey⟩ := ey
  have q := p2 _ hy
  dsimp only at q
  have hyl : y ∈ oa D.names b := by
   have := List.mem_map_of_mem (f := (·.1)) hy
   rwa [List.zipIdx_map_fst] at this
  obtain ⟨sa, sb⟩ := Bool.and_eq_true_iff.mp (List.all_eq_true.mp s2 _ hyl)
  refine obC q fun a' q1 q => ?_
  refine obC q fun o q2 q => ?_
  refine obC q fun v v1 q => ?_
  refine obC q fun fI q3 q => ?_
  obtain ⟨⟨c1, c2, c3, c4⟩, q⟩ := itI q
  obtain ⟨⟨⟨pp, bb, ss⟩, dvr⟩, r1, r2⟩ := obI q
  rw [v1, jc q3] at q2
  obtain ⟨r2, r3⟩ := okI r2
  rw [ey] at r2 sa sb
  cases r2
  subst c1
  exact ⟨fI, dvr, ou X g q1, c2, c3, q2, c4, rE r1 sa, sb, fun μ n h => ot nI r3⟩
end
set_option maxHeartbeats 0
noncomputable def wQ (s : SharedT) (a : Addr) : Option Obj := if a < s.n then alive ((s.tree.get a).getD default) else none
theorem nL (s : SharedT) : s.abs.heap.get? = wQ s := by
 funext a
 show (absHeap s.tree s.n s.life).get? a = _
 unfold Heap.get? wQ
 rw [absHeap_at]
 by_cases h : a < s.n
 ·rw [if_pos h, if_pos h]
  obtain ⟨c, d, dt, sl⟩ := (s.tree.get a).getD default
  cases dt <;> rfl
 ·rw [if_neg h, if_neg h]
noncomputable abbrev pw0 : Program := PySem.Challenge.pw_rg0030_01
noncomputable def hS : List Stmt := pw0.main.body
noncomputable def ly (b : List Stmt) : List Str := b.filterMap fun
 | .Assign [.Attribute (.Name _ _) x _] _ _ => some x
 | _ => none
noncomputable def rB : List Str := ["Sub", "Entity", "Region", "Type", "Subtype", "Scope", "Limits"]
noncomputable def jp : ui where
 names := rB
 fields := ((oa rB hS).flatMap fun x => ly x.2.2.1).eraseDups
 gl := [("FRAME_KINDS", .tup [.str "root", .str "sub", .str "task", .str "protected"]), ("INHERITED", .str "#inherited"), ("SEPARATOR", .str "#"), ("MOST_INHERITED", .int 20000)]
 dv := fun x => if x == ("Limits" : Str) then [.int 32, .int 1000000, .int 50, .int 10000, .int 100000, .int 50, .int 1000000] else []
noncomputable def P0 : Prg := sN jp hS
noncomputable def q0 : Program := view pw0 [73]
noncomputable def iD : List Str := (hS.zipIdx.filter fun p => p.2 != 73).flatMap fun p => bindsAtTop p.1
noncomputable def Xt0 (s : Shared) : Bool := xlAt q0 [] s && recOk PySem.Challenge.rw_rg0030_01.row.toRowW.records s
noncomputable abbrev wo := (List (Option ((Arguments × List Stmt × Scope) × List Value)) × List (Option ((Arguments × List Stmt × Scope) × Option (List MV))) × List (Option MV) × Bool) × Bool
noncomputable def Y0 : o5 wo :=
 ⟨fun s => (gV jp hS (nN s.heap.get?), (s.heap.get? sysModules).isSome), fun s => (gV jp hS (nN (wQ s)), (wQ s sysModules).isSome), fun s => by rw [nL]⟩
noncomputable def tm : wo := (iI jp hS, true)
theorem lH (w : World) (os : OsState) : oe treeTable pw0 q0 iD Xt0 Y0 3800 w os = some (true, openGood q0 iD, tm) := by kernel_rfl
theorem sI : j6 jp hS = true := by kernel_rfl
theorem mU : PySem.Challenge.rw_rg0030_01.wellSaid = true := by kernel_rfl
theorem xa : LeftO pw0 q0 iD Xt0 Y0.flat (fun _ => tm) 3800 :=
 iF (by kernel_rfl) (by decide) (fun s => rfl) (fun w => by kernel_rfl) lH
set_option maxHeartbeats 200000
noncomputable def H0 : MH := ⟨fun _ _ => none, fun _ => none, fun _ => none, 0⟩
noncomputable def uk : Prop := ∀ ns : List Int, ns.length <= 63 -> ∃ g H', (cxD P0 12).tab "law" = some g /\ g [.fz (ns.map .int)] H0 = some (.bool true, H')
noncomputable def wn (_ : World) (h : Heap) : Prop := (∃ K : Frag, K.In h /\ gV jp hS K = iI jp hS) /\ ∃ o, h.get? sysModules = some o
theorem lK {P : Params} {h : Heap} {μ : Mp} {n : Nat} {ns : List Int} : ∀ {vs : List Value}, WellAll P h vs (ns.map .int) -> ax μ n h (ns.map .int) vs := by
 induction ns with
 | nil => intro vs r; cases r; exact .nil
 | cons i ns ih => intro vs r; cases r with
  | cons a r => cases a with
   | int i t => exact .cons (.int i t) (ih r)
theorem lJ {R : WRecords} : ∀ {xs : List WData}, WShape.hasItems R xs .int = true -> ∃ ns : List Int, xs = ns.map .int := by
 intro xs
 induction xs with
 | nil => exact fun _ => ⟨[], rfl⟩
 | cons x xs ih =>
  intro h
  obtain ⟨h1, h2⟩ := Bool.and_eq_true_iff.mp (show (WShape.has R x .int && WShape.hasItems R xs .int) = true from h)
  obtain ⟨i, rfl⟩ := hasW_int h1
  obtain ⟨ns, rfl⟩ := ih h2
  exact ⟨i :: ns, rfl⟩
theorem pP {args : List WData} (h : PySem.Challenge.rw_rg0030_01.row.toRowW.claim.pre args = true) : ∃ ns : List Int, args = [.list (ns.map .int)] /\ ns.length <= 63 := by
 obtain ⟨h1, h2⟩ := pre_splitW h
 obtain ⟨d, r, rfl, h3, h4⟩ := hasAllW_cons (show WShape.hasAll _ args [.list .int] = true from h1)
 obtain rfl := hasAllW_nil h4
 obtain ⟨xs, rfl, h5⟩ := hasW_list h3
 obtain ⟨ns, rfl⟩ := lJ h5
 refine ⟨ns, rfl, ?_⟩
 have h2 : (WTm.and (.not (.lt (.lit (.int 63)) (.len (.arg 0)))) (.lit (.bool true))).holds [] { args := [.list (ns.map .int)] } = true := h2
 apply Classical.byContradiction
 intro hn
 have hn : 63 < ns.length := by omega
 have e : less? (WData.int 63) (WData.int (ns.length : Int)) = some (decide ((63 : Int) < ns.length)) := by simp [less?, Num.less?]
 rw [decide_eq_true (by exact clt (a := 63) (aK _ 0 0 0 (.a (.n 63) (.n 1)) .x (.a (.n 63) (.n 1)) .x rfl hn))] at e
 simp [WTm.holds, WTm.value, e] at h2
theorem mX (as ds : List WData) : PySem.Challenge.rw_rg0030_01.row.toRowW.claim.post as (.bool true) ds = true := by
 show (WShape.has [] (.bool true) .bool && (WTm.eq .res (.lit (.bool true))).holds [] { args := as, res := some (.bool true), after := ds }) = true
 simp [WShape.has, WShape.arms, WTm.holds, WTm.value, same]
theorem xe (pl : uk) {d : DefRec} {kwd : List (Str × Expr)} (hdef : defOf q0 "law" = some (d, kwd)) : WalkO q0 iD (XL q0 []) wn PySem.Challenge.rw_rg0030_01.row.toRowW d kwd fun f vs => PySem.call f vs := by
 intro w s₀ s₁ mg mb G Y a o pm cd doc dV kV ho hd hcd hD hmg hg args vals as hpre hlay hrd hwl hlo
 obtain ⟨ns, rfl, hn⟩ := pP hpre
 obtain ⟨⟨K, X, e⟩, oo, hsm⟩ := Y
 obtain ⟨g, H', e1, e2⟩ := pl ns hn
 have T := je X G.T.g G.T.b G.T.nolimit G.T.builtins (by rw [hsm]; rfl) e
 have Pt := jr X G.T.g e sI
 obtain ⟨fv, f1, _, f3⟩ := (rZ (prog := pw0) (w := w) T Pt 12).tab "law" g e1
 rw [defOf_name hdef] at hmg
 rw [f1] at hmg
 obtain rfl := Option.some.inj hmg
 cases hwl with
 | cons x r =>
 cases r
 cases x with
 | list hl hx =>
 refine wpAny_mono (f3 callerA _ s₁ ⟨fun _ => 0, fun _ => none⟩ H0 H' (fun v s' => GoodW PySem.Challenge.rw_rg0030_01.row.toRowW.claim (classAt s₀.heap) (ExcName.means s₀.heap) [.list (ns.map .int)] s₁ (.ok (.ret v)) s') _ _ _ ⟨rfl, by decide, by decide⟩ ?_ (.cons (.fz hl rfl (lK hx)) .nil) e2 ?_) (fun v s' g => GoodW.toG g) fun _ _ g => g
 ·exact ⟨fun _ _ e => e, fun b k e => (nomatch e), fun k h => absurd h (Nat.not_lt_zero _), fun b k e => (nomatch e), fun c k fs e => (nomatch e), fun k xs e => (nomatch e), fun k es e => (nomatch e), fun k es e => (nomatch e)⟩
 ·intro μ' h' tk r S x v
  obtain ⟨_, rfl⟩ := v.view
  refine ⟨.inl ⟨.bool true, .bool true, [], rfl, fun cls => rfl, .bool true, mX _ _, fun _ => ⟨.nil, fun a h => by cases h⟩⟩, S.keeps, rfl, hg⟩
theorem jD (pl : uk) : PySem.Challenge.rw_rg0030_01.Holds := by
 have hd : ∃ d kwd, defOf q0 "law" = some (d, kwd) /\ pw0.theDef "law" = some (d.params, d.body, d.scope) /\ kwWritten? d.params.kwonlyargs d.params.kw_defaults = some kwd := ⟨_, _, rfl, rfl, rfl⟩
 obtain ⟨d, kwd, hd1, hd2, hd3⟩ := hd
 refine holds_law mU fun said => holds_open (q := q0) (loose := iD) (Xt := Xt0) (XP := XL q0 []) (Yf := Y0.flat) (Ya := fun _ => tm) (YP := wn) (N := 3800) xa (fun w s e => ?_) (fun w h h' Y k => ?_)
  (fun s e => xl_of s (Bool.and_eq_true_iff.mp e).1) XL.keeps (d := d) (kwd := kwd) hd1 hd2 hd3 (fun s e => recFacts_of (Bool.and_eq_true_iff.mp e).2) rfl said (by decide +kernel) ⟨rfl, rfl, rfl, rfl, rfl, by decide +kernel⟩ ?_ (xe pl hd1)
 ·obtain ⟨e1, e2⟩ := Prod.mk.inj e
  exact ⟨⟨_, tz, e1⟩, Option.isSome_iff_exists.mp e2⟩
 ·obtain ⟨⟨K, X, e⟩, o, ho⟩ := Y
  exact ⟨⟨K, fun b o q => k b o (X b o q), e⟩, o, k _ _ ho⟩
 ·exact ⟨[.list []], by decide +kernel, by decide +kernel⟩
noncomputable def nm {R : Type} (ρ : Rho) (x : Str) (k : MV -> M R) : M R := match ad ρ x with
 | some v => k v
 | none => ai
noncomputable def nmA {R : Type} (kd : Option NameKind) (ρ : Rho) (x : Str) (k : MV -> M R) : M R := match kd, ad ρ x with
 | some .local, some a => k a
 | some .cell, some a => k a
 | _, _ => ai
noncomputable def ag (m : M (Fl × Rho)) (k : Rho -> M (Fl × Rho)) : M (Fl × Rho) := aa m fun x => match x.1 with
 | .next => k x.2
 | f => ac (f, x.2)
noncomputable def bF (m : M (Fl × Rho)) : M MV := aa m fun r => match r.1 with
 | .ret v => ac v
 | .next => ac .none
 | .cont => ai
noncomputable def nC (x : Str) : Expr := .Name x default
noncomputable def unN (v : MV) (xs : List Str) (ρ : Rho) : M Rho := aa (cC v xs.length) fun vs => match bk (fun _ => some .local) (xs.map nC) vs ρ with
 | some ρ' => ac ρ'
 | none => ai
noncomputable def fn (d : Nat) (x : Str) : List MV -> M MV := match (cxD P0 d).tab x with
 | some g => g
 | none => fun _ => ai
noncomputable def dP : Nat -> Str -> List MV -> M MV
 | 0, _, _ => ai
 | d + 1, x, vs => match ad P0.inits x with
  | some (_, _, a, b, s) => evF (cxD P0 d) a b s vs
  | none => ai
noncomputable abbrev ext (x : Str) (v : MV) (ρ : Rho) : Rho := (x, v) :: ρ
noncomputable def nm2 {R : Type} (ρ : Rho) (x y : Str) (k : MV -> MV -> M R) : M R := nm ρ x fun a => nm ρ y fun b => k a b
noncomputable def nm3 {R : Type} (ρ : Rho) (x y z : Str) (k : MV -> MV -> MV -> M R) : M R := nm ρ x fun a => nm2 ρ y z (k a)
noncomputable def nm4 {R : Type} (ρ : Rho) (x y z u : Str) (k : MV -> MV -> MV -> MV -> M R) : M R := nm ρ x fun a => nm3 ρ y z u (k a)
noncomputable abbrev KR := Rho -> M (Fl × Rho)
noncomputable abbrev KC := MV -> M (Option MV)
noncomputable abbrev KB := MV -> Rho -> M (Fl × Rho)
theorem uL (d : Nat) (self0 name0 : MV) : dP (d + 2) "Sub" [self0, name0] = bF (ag (aa (aa (ar P0.okF self0 "name" name0) fun _ => ac (ext "self" self0 (ext "name" name0 []))) fun r2 => ac (.next, r2)) (fun r1 => ag (aa (newL []) fun v5 => aa (nm r1 "self" fun v6 => aa (ar P0.okF v6 "params" v5) fun _ => ac r1) fun r4 => ac (.next, r4)) (fun r3 => ag (aa (nm r3 "self" fun v9 => aa (ar P0.okF v9 "result" .none) fun _ => ac r3) fun r8 => ac (.next, r8)) (fun r7 => ag (aa (newL []) fun v12 => aa (nm r7 "self" fun v13 => aa (ar P0.okF v13 "decls" v12) fun _ => ac r7) fun r11 => ac (.next, r11)) (fun r10 => ag (aa (newL []) fun v16 => aa (nm r10 "self" fun v17 => aa (ar P0.okF v17 "stmts" v16) fun _ => ac r10) fun r15 => ac (.next, r15)) (fun r14 => ag (aa (newL []) fun v20 => aa (nm r14 "self" fun v21 => aa (ar P0.okF v21 "handlers" v20) fun _ => ac r14) fun r19 => ac (.next, r19)) (fun r18 => ag (aa (nm r18 "self" fun v24 => aa (ar P0.okF v24 "ups" (.int 0)) fun _ => ac r18) fun r23 => ac (.next, r23)) (fun r22 => ag (aa (nm r22 "self" fun v27 => aa (ar P0.okF v27 "operation" (.str "")) fun _ => ac r22) fun r26 => ac (.next, r26)) (fun r25 => ag (aa (newL []) fun v30 => aa (nm r25 "self" fun v31 => aa (ar P0.okF v31 "control" v30) fun _ => ac r25) fun r29 => ac (.next, r29)) (fun r28 => ag (aa (nm r28 "self" fun v34 => aa (ar P0.okF v34 "about" .none) fun _ => ac r28) fun r33 => ac (.next, r33)) (fun r32 => ag (aa (nm r32 "self" fun v37 => aa (ar P0.okF v37 "told" .none) fun _ => ac r32) fun r36 => ac (.next, r36)) fun r35 => ac (.next, r35)))))))))))) := by kernel_rfl
theorem mS (d : Nat) (self0 kind0 name0 key0 subtype0 data0 line0 : MV) : dP (d + 2) "Entity" [self0, kind0, name0, key0, subtype0, data0, line0] = bF (ag (aa (aa (ar P0.okF self0 "kind" kind0) fun _ => ac (ext "self" self0 (ext "kind" kind0 (ext "name" name0 (ext "key" key0 (ext "subtype" subtype0 (ext "data" data0 (ext "line" line0 [])))))))) fun r2 => ac (.next, r2)) (fun r1 => ag (nm r1 "name" fun v5 => aa (nm r1 "self" fun v6 => aa (ar P0.okF v6 "name" v5) fun _ => ac r1) fun r4 => ac (.next, r4)) (fun r3 => ag (nm r3 "key" fun v9 => aa (nm r3 "self" fun v10 => aa (ar P0.okF v10 "key" v9) fun _ => ac r3) fun r8 => ac (.next, r8)) (fun r7 => ag (nm r7 "subtype" fun v13 => aa (nm r7 "self" fun v14 => aa (ar P0.okF v14 "subtype" v13) fun _ => ac r7) fun r12 => ac (.next, r12)) (fun r11 => ag (nm r11 "data" fun v17 => aa (nm r11 "self" fun v18 => aa (ar P0.okF v18 "data" v17) fun _ => ac r11) fun r16 => ac (.next, r16)) (fun r15 => ag (nm r15 "line" fun v21 => aa (nm r15 "self" fun v22 => aa (ar P0.okF v22 "line" v21) fun _ => ac r15) fun r20 => ac (.next, r20)) (fun r19 => ag (aa (nm r19 "self" fun v25 => aa (ar P0.okF v25 "number" (.int 0)) fun _ => ac r19) fun r24 => ac (.next, r24)) (fun r23 => ag (aa (nm r23 "self" fun v28 => aa (ar P0.okF v28 "unique" (.str "")) fun _ => ac r23) fun r27 => ac (.next, r27)) (fun r26 => ag (aa (nm r26 "self" fun v31 => aa (ar P0.okF v31 "home" .none) fun _ => ac r26) fun r30 => ac (.next, r30)) (fun r29 => ag (aa (nm r29 "self" fun v34 => aa (ar P0.okF v34 "part" (.str "")) fun _ => ac r29) fun r33 => ac (.next, r33)) (fun r32 => ag (aa (nm r32 "self" fun v37 => aa (ar P0.okF v37 "region" .none) fun _ => ac r32) fun r36 => ac (.next, r36)) (fun r35 => ag (aa (nm r35 "self" fun v40 => aa (ar P0.okF v40 "full" .none) fun _ => ac r35) fun r39 => ac (.next, r39)) (fun r38 => ag (aa (nm r38 "self" fun v43 => aa (ar P0.okF v43 "is_ready" (.bool false)) fun _ => ac r38) fun r42 => ac (.next, r42)) (fun r41 => ag (aa (nm r41 "self" fun v46 => aa (ar P0.okF v46 "is_complete" (.bool false)) fun _ => ac r41) fun r45 => ac (.next, r45)) (fun r44 => ag (aa (nm r44 "self" fun v49 => aa (ar P0.okF v49 "is_constant" (.bool false)) fun _ => ac r44) fun r48 => ac (.next, r48)) (fun r47 => ag (aa (nm r47 "self" fun v52 => aa (ar P0.okF v52 "is_implicit" (.bool false)) fun _ => ac r47) fun r51 => ac (.next, r51)) (fun r50 => ag (aa (nm r50 "self" fun v55 => aa (ar P0.okF v55 "is_overridden" (.bool false)) fun _ => ac r50) fun r54 => ac (.next, r54)) fun r53 => ac (.next, r53)))))))))))))))))) := by kernel_rfl
theorem iw (d : Nat) (self0 kind0 owner0 parent0 : MV) : dP (d + 2) "Region" [self0, kind0, owner0, parent0] = bF (ag (aa (aa (ar P0.okF self0 "kind" kind0) fun _ => ac (ext "self" self0 (ext "kind" kind0 (ext "owner" owner0 (ext "parent" parent0 []))))) fun r2 => ac (.next, r2)) (fun r1 => ag (nm r1 "owner" fun v5 => aa (nm r1 "self" fun v6 => aa (ar P0.okF v6 "owner" v5) fun _ => ac r1) fun r4 => ac (.next, r4)) (fun r3 => ag (nm r3 "parent" fun v9 => aa (nm r3 "self" fun v10 => aa (ar P0.okF v10 "parent" v9) fun _ => ac r3) fun r8 => ac (.next, r8)) (fun r7 => ag (aa (aa (nm r7 "parent" fun v13 => aa (az .Is v13 .none) fun v14 => ae v14) fun c => if c then nm r7 "self" fun v15 => ac v15 else nm r7 "parent" fun v16 => aa (am P0.okF v16 "root") fun v17 => ac v17) fun v18 => aa (nm r7 "self" fun v19 => aa (ar P0.okF v19 "root" v18) fun _ => ac r7) fun r12 => ac (.next, r12)) (fun r11 => ag (aa (nm r11 "self" fun v22 => aa (ar P0.okF v22 "made" (.int 0)) fun _ => ac r11) fun r21 => ac (.next, r21)) (fun r20 => ag (nm r20 "self" fun v26 => aa (am P0.okF v26 "root") fun v27 => aa (am P0.okF v27 "made") fun v24 => aa (iT .Add v24 (.int 1)) fun v25 => aa (ar P0.okF v27 "made" v25) fun _ => ac (.next, r20)) (fun r23 => ag (nm r23 "self" fun v30 => aa (am P0.okF v30 "root") fun v31 => aa (am P0.okF v31 "made") fun v32 => aa (nm r23 "self" fun v33 => aa (ar P0.okF v33 "number" v32) fun _ => ac r23) fun r29 => ac (.next, r29)) (fun r28 => ag (aa (aa (nm r28 "parent" fun v36 => aa (az .Is v36 .none) fun v37 => ae v37) fun c => if c then ac (.int 0) else nm r28 "parent" fun v38 => aa (am P0.okF v38 "level") fun v39 => aa (aa (nm r28 "kind" fun v40 => aa (az .In v40 (.tup [.str "root", .str "sub", .str "task", .str "protected"])) fun v41 => ae v41) fun c => if c then ac (.int 1) else ac (.int 0)) fun v42 => aa (dz .Add v39 v42) fun v43 => ac v43) fun v44 => aa (nm r28 "self" fun v45 => aa (ar P0.okF v45 "level" v44) fun _ => ac r28) fun r35 => ac (.next, r35)) (fun r34 => ag (aa (aa (nm r34 "kind" fun v48 => aa (az .Eq v48 (.str "package")) fun v49 => ae v49) fun c => if c then ac (.str "visible") else ac (.str "body")) fun v50 => aa (nm r34 "self" fun v51 => aa (ar P0.okF v51 "part" v50) fun _ => ac r34) fun r47 => ac (.next, r47)) (fun r46 => ag (aa (newD (.s [])) fun v54 => aa (nm r46 "self" fun v55 => aa (ar P0.okF v55 "names" v54) fun _ => ac r46) fun r53 => ac (.next, r53)) (fun r52 => ag (aa (newL []) fun v58 => aa (nm r52 "self" fun v59 => aa (ar P0.okF v59 "order" v58) fun _ => ac r52) fun r57 => ac (.next, r57)) (fun r56 => ag (aa (newL []) fun v62 => aa (nm r56 "self" fun v63 => aa (ar P0.okF v63 "uses" v62) fun _ => ac r56) fun r61 => ac (.next, r61)) (fun r60 => ag (aa (newL []) fun v66 => aa (nm r60 "self" fun v67 => aa (ar P0.okF v67 "use_types" v66) fun _ => ac r60) fun r65 => ac (.next, r65)) (fun r64 => ag (aa (newD (.s [])) fun v70 => aa (nm r64 "self" fun v71 => aa (ar P0.okF v71 "counts" v70) fun _ => ac r64) fun r69 => ac (.next, r69)) (fun r68 => ag (aa (newD (.s [])) fun v74 => aa (nm r68 "self" fun v75 => aa (ar P0.okF v75 "type_homes" v74) fun _ => ac r68) fun r73 => ac (.next, r73)) (fun r72 => ag (aa (nm r72 "self" fun v78 => aa (ar P0.okF v78 "generic" .none) fun _ => ac r72) fun r77 => ac (.next, r77)) fun r76 => ac (.next, r76))))))))))))))))) := by kernel_rfl
theorem sD (d : Nat) (self0 kind0 name0 : MV) : dP (d + 2) "Type" [self0, kind0, name0] = bF (ag (aa (aa (ar P0.okF self0 "kind" kind0) fun _ => ac (ext "self" self0 (ext "kind" kind0 (ext "name" name0 [])))) fun r2 => ac (.next, r2)) (fun r1 => ag (nm r1 "name" fun v5 => aa (nm r1 "self" fun v6 => aa (ar P0.okF v6 "name" v5) fun _ => ac r1) fun r4 => ac (.next, r4)) (fun r3 => ag (aa (nm r3 "self" fun v9 => aa (ar P0.okF v9 "number" (.int 0)) fun _ => ac r3) fun r8 => ac (.next, r8)) (fun r7 => ag (aa (nm r7 "self" fun v12 => aa (ar P0.okF v12 "parent" .none) fun _ => ac r7) fun r11 => ac (.next, r11)) (fun r10 => ag (aa (nm r10 "self" fun v15 => aa (ar P0.okF v15 "low" .none) fun _ => ac r10) fun r14 => ac (.next, r14)) (fun r13 => ag (aa (nm r13 "self" fun v18 => aa (ar P0.okF v18 "high" .none) fun _ => ac r13) fun r17 => ac (.next, r17)) (fun r16 => ag (aa (newL []) fun v21 => aa (nm r16 "self" fun v22 => aa (ar P0.okF v22 "literals" v21) fun _ => ac r16) fun r20 => ac (.next, r20)) (fun r19 => ag (aa (nm r19 "self" fun v25 => aa (ar P0.okF v25 "modulus" (.int 0)) fun _ => ac r19) fun r24 => ac (.next, r24)) (fun r23 => ag (aa (nm r23 "self" fun v28 => aa (ar P0.okF v28 "small" (.tup [(.int 1), (.int 1)])) fun _ => ac r23) fun r27 => ac (.next, r27)) (fun r26 => ag (aa (newL []) fun v31 => aa (nm r26 "self" fun v32 => aa (ar P0.okF v32 "index" v31) fun _ => ac r26) fun r30 => ac (.next, r30)) (fun r29 => ag (aa (nm r29 "self" fun v35 => aa (ar P0.okF v35 "component" .none) fun _ => ac r29) fun r34 => ac (.next, r34)) (fun r33 => ag (aa (nm r33 "self" fun v38 => aa (ar P0.okF v38 "is_constrained" (.bool true)) fun _ => ac r33) fun r37 => ac (.next, r37)) (fun r36 => ag (aa (newL []) fun v41 => aa (nm r36 "self" fun v42 => aa (ar P0.okF v42 "discriminants" v41) fun _ => ac r36) fun r40 => ac (.next, r40)) (fun r39 => ag (aa (newL []) fun v45 => aa (nm r39 "self" fun v46 => aa (ar P0.okF v46 "components" v45) fun _ => ac r39) fun r44 => ac (.next, r44)) (fun r43 => ag (aa (nm r43 "self" fun v49 => aa (ar P0.okF v49 "variant" .none) fun _ => ac r43) fun r48 => ac (.next, r48)) (fun r47 => ag (aa (nm r47 "self" fun v52 => aa (ar P0.okF v52 "designated" .none) fun _ => ac r47) fun r51 => ac (.next, r51)) (fun r50 => ag (aa (nm r50 "self" fun v55 => aa (ar P0.okF v55 "is_tagged" (.bool false)) fun _ => ac r50) fun r54 => ac (.next, r54)) (fun r53 => ag (aa (nm r53 "self" fun v58 => aa (ar P0.okF v58 "wide" .none) fun _ => ac r53) fun r57 => ac (.next, r57)) (fun r56 => ag (aa (nm r56 "self" fun v61 => aa (ar P0.okF v61 "is_limited" (.bool false)) fun _ => ac r56) fun r60 => ac (.next, r60)) (fun r59 => ag (aa (nm r59 "self" fun v64 => aa (ar P0.okF v64 "is_private" (.bool false)) fun _ => ac r59) fun r63 => ac (.next, r63)) (fun r62 => ag (aa (nm r62 "self" fun v67 => aa (ar P0.okF v67 "is_abstract" (.bool false)) fun _ => ac r62) fun r66 => ac (.next, r66)) (fun r65 => ag (aa (nm r65 "self" fun v70 => aa (ar P0.okF v70 "is_constant" (.bool false)) fun _ => ac r65) fun r69 => ac (.next, r69)) (fun r68 => ag (aa (nm r68 "self" fun v73 => aa (ar P0.okF v73 "is_late" (.bool false)) fun _ => ac r68) fun r72 => ac (.next, r72)) (fun r71 => ag (aa (newD (.s [])) fun v76 => aa (nm r71 "self" fun v77 => aa (ar P0.okF v77 "operations" v76) fun _ => ac r71) fun r75 => ac (.next, r75)) fun r74 => ac (.next, r74))))))))))))))))))))))))) := by kernel_rfl
theorem lr (d : Nat) (self0 t0 constraint0 : MV) : dP (d + 2) "Subtype" [self0, t0, constraint0] = bF (ag (aa (aa (ar P0.okF self0 "type" t0) fun _ => ac (ext "self" self0 (ext "t" t0 (ext "constraint" constraint0 [])))) fun r2 => ac (.next, r2)) (fun r1 => ag (nm r1 "constraint" fun v5 => aa (nm r1 "self" fun v6 => aa (ar P0.okF v6 "constraint" v5) fun _ => ac r1) fun r4 => ac (.next, r4)) fun r3 => ac (.next, r3))) := by kernel_rfl
theorem pG (d : Nat) (self0 place0 limits0 choose0 types0 : MV) : dP (d + 2) "Scope" [self0, place0, limits0, choose0, types0] = bF (ag (aa (aa (ar P0.okF self0 "place" place0) fun _ => ac (ext "self" self0 (ext "place" place0 (ext "limits" limits0 (ext "choose" choose0 (ext "types" types0 [])))))) fun r2 => ac (.next, r2)) (fun r1 => ag (nm r1 "limits" fun v5 => aa (nm r1 "self" fun v6 => aa (ar P0.okF v6 "limits" v5) fun _ => ac r1) fun r4 => ac (.next, r4)) (fun r3 => ag (nm r3 "choose" fun v9 => aa (nm r3 "self" fun v10 => aa (ar P0.okF v10 "choose" v9) fun _ => ac r3) fun r8 => ac (.next, r8)) (fun r7 => ag (nm r7 "types" fun v13 => aa (nm r7 "self" fun v14 => aa (ar P0.okF v14 "types" v13) fun _ => ac r7) fun r12 => ac (.next, r12)) (fun r11 => ag (aa (nm r11 "self" fun v17 => aa (ar P0.okF v17 "typed" .none) fun _ => ac r11) fun r16 => ac (.next, r16)) (fun r15 => ag (aa (nm r15 "self" fun v20 => aa (ar P0.okF v20 "static" .none) fun _ => ac r15) fun r19 => ac (.next, r19)) (fun r18 => ag (aa (newD (.s [])) fun v23 => aa (nm r18 "self" fun v24 => aa (ar P0.okF v24 "builders" v23) fun _ => ac r18) fun r22 => ac (.next, r22)) (fun r21 => ag (aa (newD (.s [])) fun v27 => aa (nm r21 "self" fun v28 => aa (ar P0.okF v28 "ways" v27) fun _ => ac r21) fun r26 => ac (.next, r26)) (fun r25 => ag (aa (newD (.s [])) fun v31 => aa (nm r25 "self" fun v32 => aa (ar P0.okF v32 "declarations" v31) fun _ => ac r25) fun r30 => ac (.next, r30)) (fun r29 => ag (aa (newD (.s [])) fun v35 => aa (nm r29 "self" fun v36 => aa (ar P0.okF v36 "statements" v35) fun _ => ac r29) fun r34 => ac (.next, r34)) (fun r33 => ag (aa (nm r33 "self" fun v39 => aa (ar P0.okF v39 "line" (.int 1)) fun _ => ac r33) fun r38 => ac (.next, r38)) (fun r37 => ag (aa (nm r37 "self" fun v42 => aa (ar P0.okF v42 "count" (.int 100)) fun _ => ac r37) fun r41 => ac (.next, r41)) (fun r40 => ag (aa (nm r40 "self" fun v45 => aa (ar P0.okF v45 "under_way" (.int 0)) fun _ => ac r40) fun r44 => ac (.next, r44)) fun r43 => ac (.next, r43)))))))))))))) := by kernel_rfl
theorem mR (d : Nat) (self0 width0 steps0 depth0 members0 text0 tasks0 heap0 : MV) : dP (d + 2) "Limits" [self0, width0, steps0, depth0, members0, text0, tasks0, heap0] = bF (ag (aa (aa (ar P0.okF self0 "width" width0) fun _ => ac (ext "self" self0 (ext "width" width0 (ext "steps" steps0 (ext "depth" depth0 (ext "members" members0 (ext "text" text0 (ext "tasks" tasks0 (ext "heap" heap0 []))))))))) fun r2 => ac (.next, r2)) (fun r1 => ag (nm r1 "steps" fun v5 => aa (nm r1 "self" fun v6 => aa (ar P0.okF v6 "steps" v5) fun _ => ac r1) fun r4 => ac (.next, r4)) (fun r3 => ag (nm r3 "depth" fun v9 => aa (nm r3 "self" fun v10 => aa (ar P0.okF v10 "depth" v9) fun _ => ac r3) fun r8 => ac (.next, r8)) (fun r7 => ag (nm r7 "members" fun v13 => aa (nm r7 "self" fun v14 => aa (ar P0.okF v14 "members" v13) fun _ => ac r7) fun r12 => ac (.next, r12)) (fun r11 => ag (nm r11 "text" fun v17 => aa (nm r11 "self" fun v18 => aa (ar P0.okF v18 "text" v17) fun _ => ac r11) fun r16 => ac (.next, r16)) (fun r15 => ag (nm r15 "tasks" fun v21 => aa (nm r15 "self" fun v22 => aa (ar P0.okF v22 "tasks" v21) fun _ => ac r15) fun r20 => ac (.next, r20)) (fun r19 => ag (nm r19 "heap" fun v25 => aa (nm r19 "self" fun v26 => aa (ar P0.okF v26 "heap" v25) fun _ => ac r19) fun r24 => ac (.next, r24)) fun r23 => ac (.next, r23)))))))) := by kernel_rfl
theorem gS (d : Nat) (one0 other0 : MV) : fn (d + 2) "homographs" [one0, other0] = bF (ag (aa (aa (am P0.okF one0 "name") fun v2 => aa (am P0.okF other0 "name") fun v3 => aa (az .NotEq v2 v3) fun v4 => ae v4) fun c => if c then ac (.ret (.bool false), (ext "one" one0 (ext "other" other0 []))) else ac (.next, (ext "one" one0 (ext "other" other0 [])))) (fun r1 => ag (aa (orM [nm r1 "one" fun v18 => aa (am P0.okF v18 "key") fun v19 => aa (az .Is v19 .none) fun v20 => ac v20, nm r1 "other" fun v21 => aa (am P0.okF v21 "key") fun v22 => aa (az .Is v22 .none) fun v23 => ac v23, nm r1 "one" fun v24 => aa (am P0.okF v24 "key") fun v25 => nm r1 "other" fun v26 => aa (am P0.okF v26 "key") fun v27 => aa (az .Eq v25 v27) fun v28 => ac v28]) fun v29 => ac (.ret v29, r1)) fun r17 => ac (.next, r17))) := by kernel_rfl
theorem eK (d : Nat) (entity0 number0 : MV) : fn (d + 2) "mentions_type" [entity0, number0] = bF (ag (aa (aa (am P0.okF entity0 "key") fun v2 => aa (az .Is v2 .none) fun v3 => ae v3) fun c => if c then ac (.ret (.bool false), (ext "entity" entity0 (ext "number" number0 []))) else ac (.next, (ext "entity" entity0 (ext "number" number0 [])))) (fun r1 => ag (aa (orM [nm2 r1 "number" "entity" fun v16 v17 => aa (am P0.okF v17 "key") fun v18 => aa (aw v18 (.int 0)) fun v19 => aa (az .In v16 v19) fun v20 => ac v20, nm r1 "entity" fun v21 => aa (am P0.okF v21 "key") fun v22 => aa (aw v22 (.int 1)) fun v23 => nm r1 "number" fun v24 => aa (az .Eq v23 v24) fun v25 => ac v25]) fun v26 => ac (.ret v26, r1)) fun r15 => ac (.next, r15))) := by kernel_rfl
theorem gR (d : Nat) (subtype0 : MV) : fn (d + 2) "is_settled" [subtype0] = bF (ag (aa (am P0.okF subtype0 "constraint") fun v3 => ac (.next, (ext "constraint" v3 (ext "subtype" subtype0 [])))) (fun r2 => ag (aa (nm r2 "constraint" fun v5 => aa (az .Is v5 .none) fun v6 => ae v6) fun c => if c then ac (.ret (.bool true), r2) else ac (.next, r2)) (fun r4 => ag (aa (nm r4 "constraint" fun v8 => aa (aw v8 (.int 0)) fun v9 => aa (az .Eq v9 (.str "named")) fun v10 => ae v10) fun c => if c then ac (.ret (.bool false), r4) else ac (.next, r4)) (fun r7 => ag (aa (nm r7 "constraint" fun v12 => aa (aw v12 (.int 0)) fun v13 => aa (az .Eq v13 (.str "range")) fun v14 => ae v14) fun c => if c then ag (aa (mj [nm r7 "constraint" fun v24 => aa (aG "len" [v24]) fun v25 => aa (az .Eq v25 (.int 3)) fun v26 => ac v26, nm r7 "constraint" fun v27 => aa (aw v27 (.int 1)) fun v28 => eB v28 (ac (.bool true)), nm r7 "constraint" fun v29 => aa (aw v29 (.int 2)) fun v30 => eB v30 (ac (.bool true))]) fun v31 => ac (.ret v31, r7)) fun r23 => ac (.next, r23) else ac (.next, r7)) (fun r11 => ag (nm r11 "constraint" fun v37 => aa (aw v37 (.int 1)) fun v38 => aa (bw v38) fun s36 => ba s36.1 (fun x33 r34 => ag (aa (bw x33) fun s43 => ba s43.1 (fun x40 r41 => ag (aa ((ai : M Bool)) fun c => if c then ac (.ret (.bool false), (ext "part" x40 r41)) else ac (.next, (ext "part" x40 r41))) fun r44 => ac (.next, r44)) s43.2 0 (ext "pair" x33 r34)) fun r39 => ac (.next, r39)) s36.2 0 r11) (fun r32 => ac (.ret (.bool true), r32))))))) := by kernel_rfl
theorem mQ (d : Nat) (name0 number0 : MV) : fn (d + 2) "unique" [name0, number0] = bF (ag (aa (dz .Add name0 (.str "#")) fun v5 => aa (aG "str" [number0]) fun v6 => aa (dz .Add v5 v6) fun v7 => ac (.ret v7, (ext "name" name0 (ext "number" number0 [])))) fun r4 => ac (.next, r4)) := by kernel_rfl
theorem cg (d : Nat) (kind0 owner0 parent0 : MV) : fn (d + 3) "open_region" [kind0, owner0, parent0] = bF (ag (aa (fn (d + 2) "Region" [kind0, owner0, parent0]) fun v3 => ac (.next, (ext "region" v3 (ext "kind" kind0 (ext "owner" owner0 (ext "parent" parent0 [])))))) (fun r2 => ag (aa (nm r2 "owner" fun v5 => aa (az .IsNot v5 .none) fun v6 => ae v6) fun c => if c then ag (nm r2 "region" fun v9 => aa (nm r2 "owner" fun v10 => aa (ar P0.okF v10 "region" v9) fun _ => ac r2) fun r8 => ac (.next, r8)) fun r7 => ac (.next, r7) else ac (.next, r2)) (fun r4 => ag (nm r4 "region" fun v13 => ac (.ret v13, r4)) fun r12 => ac (.next, r12)))) := by kernel_rfl
theorem eM (d : Nat) (region0 : MV) : fn (d + 2) "begin_private" [region0] = bF (ag (aa (aa (ar P0.okF region0 "part" (.str "private")) fun _ => ac (ext "region" region0 [])) fun r2 => ac (.next, r2)) fun r1 => ac (.next, r1)) := by kernel_rfl
theorem jn (d : Nat) (outer0 place0 : MV) : fn (d + 2) "encloses" [outer0, place0] = bF (ag (dG (fun r2 => nm r2 "here" fun v4 => aa (az .IsNot v4 .none) fun v5 => ae v5) (fun r3 => ag (aa (nm r3 "here" fun v7 => aa (am P0.okF v7 "number") fun v8 => nm r3 "outer" fun v9 => aa (am P0.okF v9 "number") fun v10 => aa (az .Eq v8 v10) fun v11 => ae v11) fun c => if c then ac (.ret (.bool true), r3) else ac (.next, r3)) (fun r6 => ag (nm r6 "here" fun v15 => aa (am P0.okF v15 "parent") fun v16 => ac (.next, (ext "here" v16 r6))) fun r14 => ac (.next, r14))) 20 (ext "here" place0 (ext "outer" outer0 (ext "place" place0 [])))) (fun r1 => ac (.ret (.bool false), r1))) := by kernel_rfl
theorem ff (d : Nat) (region0 : MV) : fn (d + 2) "frame_region" [region0] = bF (ag (dG (fun r2 => nm r2 "here" fun v4 => aa (am P0.okF v4 "kind") fun v5 => aa (az .NotIn v5 (.tup [.str "root", .str "sub", .str "task", .str "protected"])) fun v6 => ae v6) (fun r3 => ag (nm r3 "here" fun v10 => aa (am P0.okF v10 "parent") fun v11 => ac (.next, (ext "here" v11 r3))) fun r9 => ac (.next, r9)) 20 (ext "here" region0 (ext "region" region0 []))) (fun r1 => ag (nm r1 "here" fun v14 => ac (.ret v14, r1)) fun r13 => ac (.next, r13))) := by kernel_rfl
noncomputable abbrev Kk1 (d : Nat) : KR := fun r23 => ag (aa (aa (nm r23 "count" fun v33 => aa (az .Eq v33 (.int 0)) fun v34 => ae v34) fun c => if c then nm r23 "entity" fun v35 => aa (am P0.okF v35 "name") fun v36 => ac v36 else nm r23 "entity" fun v37 => aa (am P0.okF v37 "name") fun v38 => nm r23 "count" fun v39 => aa (fn (d + 2) "unique" [v38, v39]) fun v40 => ac v40) fun v41 => aa (nm r23 "entity" fun v42 => aa (ar P0.okF v42 "unique" v41) fun _ => ac r23) fun r32 => ac (.next, r32)) fun r31 => ac (.next, r31)
noncomputable abbrev Kk2 (d : Nat) : KR := fun r17 => ag (nm r17 "count" fun v25 => aa (dz .Add v25 (.int 1)) fun v26 => aa (nm r17 "frame" fun v27 => aa (am P0.okF v27 "counts") fun v28 => nm r17 "entity" fun v29 => aa (am P0.okF v29 "name") fun v30 => aa (be v28 v30 v26) fun _ => ac r17) fun r24 => ac (.next, r24)) (Kk1 d)
noncomputable abbrev Kk3 (d : Nat) : KR := fun r6 => ag (nm r6 "frame" fun v18 => aa (am P0.okF v18 "counts") fun v19 => aa (eO "get" v19) fun _ => nm r6 "entity" fun v20 => aa (am P0.okF v20 "name") fun v21 => aa (aM "get" v19 [v21, (.int 0)]) fun v22 => ac (.next, (ext "count" v22 r6))) (Kk2 d)
theorem gh (d : Nat) (region0 entity0 : MV) : fn (d + 3) "give_unique" [region0, entity0] = bF (ag (aa (aa (aa (am P0.okF entity0 "kind") fun v7 => aa (az .Eq v7 (.str "exception")) fun v8 => ae v8) fun c => if c then aa (am P0.okF region0 "root") fun v9 => ac v9 else aa (fn (d + 2) "frame_region" [region0]) fun v10 => ac v10) fun v11 => ac (.next, (ext "frame" v11 (ext "region" region0 (ext "entity" entity0 []))))) (Kk3 d)) := by kernel_rfl
noncomputable abbrev Kk5 (d : Nat) (r9 : Rho) : KC := fun x26 => aa (bq [nm r9 "entity" fun v27 => aa (fn (d + 2) "homographs" [x26, v27]) fun v28 => ae v28]) fun ok => if ok then ac (some x26) else ac none
noncomputable abbrev Kk6 (d : Nat) : KR := fun r9 => ag (aW r9 <| nm r9 "standing" fun v32 => aa (bw v32) fun s31 => aa (aH s31.1 ((Kk5 d r9)) s31.2 0) fun ys29 => if aC ys29 then ac (.next, (ext "rivals" (.fz ys29) r9)) else ai) (fun r25 => ag (aa (aW r25 <| nm r25 "rivals" fun v40 => aa (bw v40) fun s39 => aa (aH s39.1 ((fun x35 => aa (bq [aa (aa (am P0.okF x35 "is_implicit") fun v36 => ae v36) fun b => ac (!b)]) fun ok => if ok then ac (some x35) else ac none)) s39.2 0) fun ys37 => if aC ys37 then aa (nt (.fz ys37)) fun b34 => ae (.bool (!b34)) else ai) fun c => if c then ag (aa (aa (nm r25 "entity" fun v42 => aa (am P0.okF v42 "is_implicit") fun v43 => ae v43) fun b => ac (!b)) fun c => if c then ai else ac (.next, r25)) (fun r41 => ag (aa (nm r41 "entity" fun v46 => aa (ar P0.okF v46 "is_overridden" (.bool true)) fun _ => ac r41) fun r45 => ac (.next, r45)) (fun r44 => ac (.ret .none, r44))) else ac (.next, r25)) (fun r33 => ag (nm r33 "rivals" fun v52 => aa (bw v52) fun s51 => ba s51.1 (fun x48 r49 => ag (aa (aa (ar P0.okF x48 "is_overridden" (.bool true)) fun _ => ac (ext "other" x48 r49)) fun r54 => ac (.next, r54)) fun r53 => ac (.next, r53)) s51.2 0 r33) fun r47 => ac (.next, r47)))
theorem eI (d : Nat) (region0 entity0 : MV) : fn (d + 3) "settle_rivals" [region0, entity0] = bF (ag (aa (am P0.okF region0 "names") fun v15 => aa (eO "get" v15) fun _ => aa (am P0.okF entity0 "name") fun v16 => aa (aM "get" v15 [v16, .fz []]) fun v17 => aa (bw v17) fun s14 => aa (aH s14.1 ((fun x10 => aa (bq [aa (aa (am P0.okF x10 "is_overridden") fun v11 => ae v11) fun b => ac (!b)]) fun ok => if ok then ac (some x10) else ac none)) s14.2 0) fun ys12 => if aC ys12 then ac (.next, (ext "standing" (.fz ys12) (ext "region" region0 (ext "entity" entity0 [])))) else ai) (Kk6 d)) := by kernel_rfl
noncomputable abbrev Kk7 (d : Nat) : KR := fun r26 => ag (nm2 r26 "region" "entity" fun v32 v33 => aa (fn (d + 3) "give_unique" [v32, v33]) fun v34 => ac (.next, r26)) (fun r31 => ag (nm r31 "region" fun v36 => aa (am P0.okF v36 "names") fun v37 => aa (eO "setdefault" v37) fun _ => nm r31 "entity" fun v38 => aa (am P0.okF v38 "name") fun v39 => aa (newL []) fun v40 => aa (aM "setdefault" v37 [v39, v40]) fun v41 => aa (eO "append" v41) fun _ => nm r31 "entity" fun v42 => aa (aM "append" v41 [v42]) fun v43 => ac (.next, r31)) (fun r35 => ag (nm r35 "region" fun v45 => aa (am P0.okF v45 "order") fun v46 => aa (eO "append" v46) fun _ => nm r35 "entity" fun v47 => aa (aM "append" v46 [v47]) fun v48 => ac (.next, r35)) fun r44 => ac (.next, r44)))
noncomputable abbrev Kk8 (d : Nat) : KR := fun r22 => ag (nm r22 "region" fun v28 => aa (am P0.okF v28 "part") fun v29 => aa (nm r22 "entity" fun v30 => aa (ar P0.okF v30 "part" v29) fun _ => ac r22) fun r27 => ac (.next, r27)) (Kk7 d)
noncomputable abbrev Kk9 (d : Nat) : KR := fun r16 => ag (nm r16 "region" fun v24 => aa (nm r16 "entity" fun v25 => aa (ar P0.okF v25 "home" v24) fun _ => ac r16) fun r23 => ac (.next, r23)) (Kk8 d)
noncomputable abbrev Av (d : Nat) : KR := fun r11 => ag (nm r11 "region" fun v18 => aa (am P0.okF v18 "root") fun v19 => aa (am P0.okF v19 "made") fun v20 => aa (nm r11 "entity" fun v21 => aa (ar P0.okF v21 "number" v20) fun _ => ac r11) fun r17 => ac (.next, r17)) (Kk9 d)
noncomputable abbrev Au (d : Nat) : KR := fun r7 => ag (nm r7 "region" fun v14 => aa (am P0.okF v14 "root") fun v15 => aa (am P0.okF v15 "made") fun v12 => aa (iT .Add v12 (.int 1)) fun v13 => aa (ar P0.okF v15 "made" v13) fun _ => ac (.next, r7)) (Av d)
noncomputable abbrev At (d : Nat) : KR := fun r1 => ag (nm2 r1 "region" "entity" fun v8 v9 => aa (fn (d + 3) "settle_rivals" [v8, v9]) fun v10 => ac (.next, r1)) (Au d)
theorem lq (d : Nat) (region0 entity0 : MV) : fn (d + 4) "declare" [region0, entity0] = bF (ag (aa (bq [aa (am P0.okF entity0 "name") fun v2 => aa (az .In (.str ".") v2) fun v3 => ae v3, aa (am P0.okF entity0 "name") fun v4 => aa (lP v4 .none (.int 1)) fun v5 => aa (az .NotEq v5 (.str "'")) fun v6 => ae v6]) fun c => if c then ai else ac (.next, (ext "region" region0 (ext "entity" entity0 [])))) (At d)) := by kernel_rfl
theorem gP (d : Nat) (entity0 : MV) : fn (d + 2) "make_ready" [entity0] = bF (ag (aa (aa (ar P0.okF entity0 "is_ready" (.bool true)) fun _ => ac (ext "entity" entity0 [])) fun r2 => ac (.next, r2)) fun r1 => ac (.next, r1)) := by kernel_rfl
noncomputable abbrev As (d : Nat) : KR := fun r1 => ag (nm r1 "entity" fun v4 => aa (fn (d + 4) "make_ready" [v4]) fun v5 => ac (.next, r1)) fun r3 => ac (.next, r3)
theorem eL (d : Nat) (region0 entity0 : MV) : fn (d + 5) "declare_ready" [region0, entity0] = bF (ag (aa (fn (d + 4) "declare" [region0, entity0]) fun v2 => ac (.next, (ext "region" region0 (ext "entity" entity0 [])))) (As d)) := by kernel_rfl
theorem ir (d : Nat) (region0 number0 : MV) : fn (d + 2) "note_type" [region0, number0] = bF (ag (aa (am P0.okF region0 "root") fun v2 => aa (am P0.okF v2 "type_homes") fun v3 => aa (eO "setdefault" v3) fun _ => aa (am P0.okF region0 "part") fun v4 => aa (aM "setdefault" v3 [number0, (.tup [region0, v4])]) fun v5 => ac (.next, (ext "region" region0 (ext "number" number0 [])))) fun r1 => ac (.next, r1)) := by kernel_rfl
noncomputable abbrev Ar (d : Nat) : KB := fun x2 r3 => ag (aa (nm r3 "entity" fun v7 => aa (fn (d + 2) "homographs" [x2, v7]) fun v8 => ae v8) fun c => if c then ac (.ret (.bool true), (ext "other" x2 r3)) else ac (.next, (ext "other" x2 r3))) fun r6 => ac (.next, r6)
theorem iu (d : Nat) (entity0 inner0 : MV) : fn (d + 3) "is_hidden" [entity0, inner0] = bF (ag (aa (bw inner0) fun s5 => ba s5.1 (Ar d) s5.2 0 (ext "entity" entity0 (ext "inner" inner0 []))) (fun r1 => ac (.ret (.bool false), r1))) := by kernel_rfl
noncomputable abbrev Aq (d : Nat) (r24 : Rho) : KC := fun x37 => aa (bq [bq [aa (am P0.okF x37 "is_ready") fun v38 => ae v38, aa (nm r24 "around" fun v39 => aa (fn (d + 3) "is_hidden" [x37, v39]) fun v40 => ae v40) fun b => ac (!b)]]) fun ok => if ok then ac (some x37) else ac none
noncomputable abbrev Ap (d : Nat) : KR := fun r24 => ag (nmA (some .local) r24 "found" fun v35 => aW r24 <| nm r24 "row" fun v44 => aa (bw v44) fun s43 => aa (aH s43.1 ((Aq d r24)) s43.2 0) fun ys41 => if aC ys41 then aa (iT .Add v35 (.fz ys41)) fun v36 => ac (.next, (ext "found" v36 r24)) else ai) (fun r34 => ag (nmA (some .cell) r34 "around" fun v46 => nm r34 "row" fun v48 => aa (iT .Add v46 v48) fun v47 => ac (.next, (ext "around" v47 r34))) (fun r45 => ag (nm r45 "here" fun v52 => aa (am P0.okF v52 "parent") fun v53 => ac (.next, (ext "here" v53 r45))) fun r51 => ac (.next, r51)))
noncomputable abbrev Ao (d : Nat) : KR := fun r12 => ag (aW r12 <| nm r12 "here" fun v30 => aa (am P0.okF v30 "names") fun v31 => aa (eO "get" v31) fun _ => nm r12 "name" fun v32 => aa (aM "get" v31 [v32, .fz []]) fun v33 => aa (bw v33) fun s29 => aa (aH s29.1 ((fun x25 => aa (bq [aa (aa (am P0.okF x25 "is_overridden") fun v26 => ae v26) fun b => ac (!b)]) fun ok => if ok then ac (some x25) else ac none)) s29.2 0) fun ys27 => if aC ys27 then ac (.next, (ext "row" (.fz ys27) r12)) else ai) (Ap d)
noncomputable abbrev An (d : Nat) : KR := fun r8 => ag (dG (fun r11 => nm r11 "here" fun v13 => aa (az .IsNot v13 .none) fun v14 => ae v14) (Ao d) 20 r8) (fun r10 => ag (nm2 r10 "found" "around" fun v57 v58 => ac (.ret (.tup [v57, v58]), r10)) fun r56 => ac (.next, r56))
noncomputable abbrev Am (d : Nat) : KR := fun r5 => ag (nm r5 "place" fun v9 => ac (.next, (ext "here" v9 r5))) (An d)
noncomputable abbrev Al (d : Nat) : KR := fun r2 => ag (aa (newL []) fun v6 => ac (.next, (ext "around" v6 r2))) (Am d)
theorem cF (d : Nat) (place0 name0 : MV) : fn (d + 4) "immediate_entities" [place0, name0] = bF (ag (aa (newL []) fun v3 => ac (.next, (ext "found" v3 (ext "place" place0 (ext "name" name0 []))))) (Al d)) := by kernel_rfl
noncomputable abbrev Ak (d : Nat) (r1 : Rho) : KC := fun x18 => aa (bq [nm r1 "entity" fun v19 => aa (fn (d + 2) "homographs" [x18, v19]) fun v20 => ae v20]) fun ok => if ok then ac (some x18) else ac none
noncomputable abbrev Aj (d : Nat) : KR := fun r1 => ag (aW r1 <| nm r1 "region" fun v24 => aa (am P0.okF v24 "names") fun v25 => nm r1 "entity" fun v26 => aa (am P0.okF v26 "name") fun v27 => aa (aw v25 v27) fun v28 => aa (bw v28) fun s23 => aa (aH s23.1 ((Ak d r1)) s23.2 0) fun ys21 => if aC ys21 then ac (.next, (ext "row" (.fz ys21) r1)) else ai) (fun r17 => ag (aW r17 <| nm r17 "row" fun v43 => aa (bw v43) fun s42 => aa (aH s42.1 ((fun x37 => aa (bq [aa (aa (am P0.okF x37 "is_overridden") fun v38 => ae v38) fun b => ac (!b)]) fun ok => if ok then aa (am P0.okF x37 "part") fun v39 => ac (some v39) else ac none)) s42.2 0) fun ys40 => if aC ys40 then ac (.next, (ext "stands" (.fz ys40) r17)) else ai) (fun r36 => ag (aW r36 <| nm r36 "row" fun v61 => aa (bw v61) fun s60 => aa (aH s60.1 ((fun x54 => aa (bq [aa (am P0.okF x54 "part") fun v55 => aa (az .Eq v55 (.str "visible")) fun v56 => ae v56]) fun ok => if ok then aa (am P0.okF x54 "number") fun v57 => ac (some v57) else ac none)) s60.2 0) fun ys58 => if aC ys58 then aa (aw (.fz ys58) (.int (-1))) fun v62 => ac (.next, (ext "last" v62 r36)) else ai) (fun r53 => ag (aa (mj [nm r53 "stands" fun v74 => aa (nt v74) fun b73 => ac (.bool (!b73)), nm r53 "stands" fun v75 => aa (az .NotIn (.str "visible") v75) fun v76 => ac v76, nm2 r53 "last" "entity" fun v77 v78 => aa (am P0.okF v78 "number") fun v79 => aa (az .Eq v77 v79) fun v80 => ac v80]) fun v81 => ac (.ret v81, r53)) fun r72 => ac (.next, r72))))
theorem gc (d : Nat) (region0 entity0 : MV) : fn (d + 3) "stays_shown" [region0, entity0] = bF (ag (aa (orB [aa (am P0.okF entity0 "part") fun v2 => aa (az .NotEq v2 (.str "visible")) fun v3 => ae v3, aa (aa (am P0.okF entity0 "is_implicit") fun v4 => ae v4) fun b => ac (!b), aa (aa (am P0.okF entity0 "is_overridden") fun v5 => ae v5) fun b => ac (!b)]) fun c => if c then ac (.ret (.bool false), (ext "region" region0 (ext "entity" entity0 []))) else ac (.next, (ext "region" region0 (ext "entity" entity0 [])))) (Aj d)) := by kernel_rfl
theorem li (d : Nat) (region0 entity0 : MV) : fn (d + 2) "lead_to" [region0, entity0] = bF (ag (aa (am P0.okF region0 "names") fun v6 => aa (am P0.okF entity0 "name") fun v7 => aa (aw v6 v7) fun v8 => aa (bw v8) fun s5 => ba s5.1 (fun x2 r3 => ag (aa (bq [aa (am P0.okF x2 "kind") fun v10 => aa (az .Eq v10 (.str "sub")) fun v11 => ae v11, aa (am P0.okF x2 "is_implicit") fun v12 => ae v12, aa (am P0.okF x2 "is_overridden") fun v13 => ae v13, aa (am P0.okF x2 "key") fun v14 => nm r3 "entity" fun v15 => aa (am P0.okF v15 "key") fun v16 => aa (az .Eq v14 v16) fun v17 => ae v17]) fun c => if c then ag (aa (aa (am P0.okF x2 "data") fun v19 => aa (am P0.okF v19 "operation") fun v20 => aa (az .NotEq v20 (.str "")) fun v21 => ae v21) fun c => if c then ag (nm r3 "entity" fun v24 => aa (am P0.okF v24 "unique") fun v25 => aa (aa (ar P0.okF x2 "unique" v25) fun _ => ac (ext "other" x2 r3)) fun r23 => ac (.next, r23)) (fun r22 => ag (nm r22 "entity" fun v28 => aa (am P0.okF v28 "home") fun v29 => aa (nm r22 "other" fun v30 => aa (ar P0.okF v30 "home" v29) fun _ => ac r22) fun r27 => ac (.next, r27)) fun r26 => ac (.next, r26)) else ac (.next, (ext "other" x2 r3))) fun r18 => ac (.next, r18) else ac (.next, (ext "other" x2 r3))) fun r9 => ac (.next, r9)) s5.2 0 (ext "region" region0 (ext "entity" entity0 []))) fun r1 => ac (.next, r1)) := by kernel_rfl
noncomputable abbrev Ai (d : Nat) (r24 : Rho) : KC := fun x30 => aa (bq [nm r24 "package" fun v31 => aa (am P0.okF v31 "region") fun v32 => aa (fn (d + 5) "is_offered" [v32, x30]) fun v33 => ae v33]) fun ok => if ok then ac (some x30) else ac none
noncomputable abbrev Ah (d : Nat) : KR := fun r27 => ag (aa (nm r27 "package" fun v41 => aa (am P0.okF v41 "data") fun v42 => aa (az .Eq v42 (.str "box")) fun v43 => ae v43) fun c => if c then ag (nmA (some .local) r27 "row" fun v45 => nm r27 "package" fun v47 => aa (am P0.okF v47 "region") fun v48 => nm r27 "name" fun v49 => aa (fn (d + 5) "formals_beside" [v48, v49]) fun v50 => aa (iT .Add v45 v50) fun v46 => ac (.next, (ext "row" v46 r27))) fun r44 => ac (.next, r44) else ac (.next, r27)) fun r40 => ac (.next, r40)
noncomputable abbrev Ag (d : Nat) : KR := fun r24 => ag (nmA (some .local) r24 "row" fun v28 => aW r24 <| nm r24 "names" fun v37 => aa (eO "get" v37) fun _ => nm r24 "name" fun v38 => aa (aM "get" v37 [v38, .fz []]) fun v39 => aa (bw v39) fun s36 => aa (aH s36.1 ((Ai d r24)) s36.2 0) fun ys34 => if aC ys34 then aa (iT .Add v28 (.fz ys34)) fun v29 => ac (.next, (ext "row" v29 r24)) else ai) (Ah d)
noncomputable abbrev Af (d : Nat) : KB := fun x16 r17 => ag (aa (am P0.okF x16 "region") fun v25 => aa (am P0.okF v25 "names") fun v26 => ac (.next, (ext "names" v26 (ext "package" x16 r17)))) (Ag d)
noncomputable abbrev Ae (d : Nat) : KB := fun x52 r53 => ag (nmA (some .local) r53 "row" fun v59 => nm r53 "place" fun v61 => aa (am P0.okF v61 "root") fun v62 => nm r53 "name" fun v63 => aa (fn (d + 5) "offered_operators" [v62, x52, v63]) fun v64 => aa (iT .Add v59 v64) fun v60 => ac (.next, (ext "row" v60 (ext "number" x52 r53)))) fun r58 => ac (.next, r58)
noncomputable abbrev Ad (x66 : MV) : KC := fun x73 => aa (bq [aa (am P0.okF x73 "number") fun v74 => aa (am P0.okF x66 "number") fun v75 => aa (az .Eq v74 v75) fun v76 => ae v76]) fun ok => if ok then ac (some x73) else ac none
noncomputable abbrev Ac (d : Nat) : KR := fun r15 => ag (nm r15 "here" fun v56 => aa (am P0.okF v56 "use_types") fun v57 => aa (bw v57) fun s55 => ba s55.1 (Ae d) s55.2 0 r15) (fun r51 => ag (nm r51 "row" fun v70 => aa (bw v70) fun s69 => ba s69.1 (fun x66 r67 => ag (aa (aW r67 <| nm r67 "found" fun v80 => aa (bw v80) fun s79 => aa (aH s79.1 ((Ad x66)) s79.2 0) fun ys77 => if aC ys77 then aa (nt (.fz ys77)) fun b72 => ae (.bool b72) else ai) fun c => if c then ag (nm r67 "found" fun v82 => aa (eO "append" v82) fun _ => aa (aM "append" v82 [x66]) fun v83 => ac (.next, (ext "entity" x66 r67))) fun r81 => ac (.next, r81) else ac (.next, (ext "entity" x66 r67))) fun r71 => ac (.next, r71)) s69.2 0 r51) (fun r65 => ag (nm r65 "here" fun v87 => aa (am P0.okF v87 "parent") fun v88 => ac (.next, (ext "here" v88 r65))) fun r86 => ac (.next, r86)))
noncomputable abbrev Ab (d : Nat) : KR := fun r13 => ag (nm r13 "here" fun v20 => aa (am P0.okF v20 "uses") fun v21 => aa (bw v21) fun s19 => ba s19.1 (Af d) s19.2 0 r13) (Ac d)
noncomputable abbrev Aa (d : Nat) : KR := fun r9 => ag (aa (newL []) fun v14 => ac (.next, (ext "row" v14 r9))) (Ab d)
noncomputable abbrev z9 (d : Nat) : KR := fun r5 => ag (dG (fun r8 => nm r8 "here" fun v10 => aa (az .IsNot v10 .none) fun v11 => ae v11) (Aa d) 20 r5) (fun r7 => ag (nm r7 "found" fun v91 => ac (.ret v91, r7)) fun r90 => ac (.next, r90))
noncomputable abbrev z7 (d : Nat) : KR := fun r2 => ag (nm r2 "place" fun v6 => ac (.next, (ext "here" v6 r2))) (z9 d)
theorem dj (d : Nat) (place0 name0 : MV) : fn (d + 6) "offered_entities" [place0, name0] = bF (ag (aa (newL []) fun v3 => ac (.next, (ext "found" v3 (ext "place" place0 (ext "name" name0 []))))) (z7 d)) := by kernel_rfl
noncomputable abbrev z6 (d : Nat) : KC := fun x16 => aa (bq [aa (aa (fn (d + 6) "is_overloadable" [x16]) fun v17 => ae v17) fun b => ac (!b)]) fun ok => if ok then ac (some x16) else ac none
noncomputable abbrev z5 (d : Nat) (r11 : Rho) : KC := fun x36 => aa (bq [aa (nm r11 "around" fun v37 => aa (fn (d + 6) "is_hidden" [x36, v37]) fun v38 => ae v38) fun b => ac (!b)]) fun ok => if ok then ac (some x36) else ac none
noncomputable abbrev z4 (d : Nat) : KR := fun r11 => ag (nm r11 "found" fun v35 => aW r11 <| nm r11 "offered" fun v42 => aa (bw v42) fun s41 => aa (aH s41.1 ((z5 d r11)) s41.2 0) fun ys39 => if aC ys39 then aa (dz .Add v35 (.fz ys39)) fun v43 => ac (.ret v43, r11) else ai) fun r34 => ac (.next, r34)
noncomputable abbrev z0 (d : Nat) : KR := fun r7 => ag (aa (bq [nm r7 "offered" fun v12 => aa (aG "len" [v12]) fun v13 => aa (az .Gt v13 (.int 1)) fun v14 => ae v14, aW r7 <| nm r7 "offered" fun v21 => aa (bw v21) fun s20 => aa (aH s20.1 ((z6 d)) s20.2 0) fun ys18 => if aC ys18 then aa (nt (.fz ys18)) fun b15 => ae (.bool (!b15)) else ai]) fun c => if c then ag (nm r7 "found" fun v24 => ac (.ret v24, r7)) fun r23 => ac (.next, r23) else ac (.next, r7)) (z4 d)
noncomputable abbrev zZ (d : Nat) : KR := fun r1 => ag (nm2 r1 "place" "name" fun v8 v9 => aa (fn (d + 6) "offered_entities" [v8, v9]) fun v10 => ac (.next, (ext "offered" v10 r1))) (z0 d)
theorem lh (d : Nat) (place0 name0 : MV) : fn (d + 7) "look_up" [place0, name0] = bF (ag (aa (fn (d + 6) "immediate_entities" [place0, name0]) fun v3 => aa (unN v3 ["found", "around"] (ext "place" place0 (ext "name" name0 []))) fun r2 => ac (.next, r2)) (zZ d)) := by kernel_rfl
theorem mP (d : Nat) (place0 entity0 : MV) : fn (d + 2) "ups_to" [place0, entity0] = bF (ag (aa (am P0.okF place0 "level") fun v6 => aa (am P0.okF entity0 "home") fun v7 => aa (am P0.okF v7 "level") fun v8 => aa (dz .Sub v6 v8) fun v9 => ac (.ret v9, (ext "place" place0 (ext "entity" entity0 [])))) fun r5 => ac (.next, r5)) := by kernel_rfl
theorem jm (d : Nat) (name0 low0 high0 : MV) : fn (d + 3) "int_type" [name0, low0, high0] = bF (ag (aa (fn (d + 2) "Type" [(.str "int"), name0]) fun v3 => ac (.next, (ext "made" v3 (ext "name" name0 (ext "low" low0 (ext "high" high0 [])))))) (fun r2 => ag (nm r2 "low" fun v6 => aa (nm r2 "made" fun v7 => aa (ar P0.okF v7 "low" v6) fun _ => ac r2) fun r5 => ac (.next, r5)) (fun r4 => ag (nm r4 "high" fun v10 => aa (nm r4 "made" fun v11 => aa (ar P0.okF v11 "high" v10) fun _ => ac r4) fun r9 => ac (.next, r9)) (fun r8 => ag (nm r8 "made" fun v14 => ac (.ret v14, r8)) fun r13 => ac (.next, r13))))) := by kernel_rfl
theorem fg (d : Nat) (parent0 name0 : MV) : fn (d + 3) "derived_type" [parent0, name0] = bF (ag (aa (am P0.okF parent0 "kind") fun v4 => aa (fn (d + 2) "Type" [v4, name0]) fun v5 => ac (.next, (ext "made" v5 (ext "parent" parent0 (ext "name" name0 []))))) (fun r3 => ag (nm r3 "parent" fun v8 => aa (nm r3 "made" fun v9 => aa (ar P0.okF v9 "parent" v8) fun _ => ac r3) fun r7 => ac (.next, r7)) (fun r6 => ag (nm r6 "parent" fun v12 => aa (am P0.okF v12 "low") fun v13 => aa (nm r6 "made" fun v14 => aa (ar P0.okF v14 "low" v13) fun _ => ac r6) fun r11 => ac (.next, r11)) (fun r10 => ag (nm r10 "parent" fun v17 => aa (am P0.okF v17 "high") fun v18 => aa (nm r10 "made" fun v19 => aa (ar P0.okF v19 "high" v18) fun _ => ac r10) fun r16 => ac (.next, r16)) (fun r15 => ag (nm r15 "parent" fun v22 => aa (am P0.okF v22 "literals") fun v23 => aa (nm r15 "made" fun v24 => aa (ar P0.okF v24 "literals" v23) fun _ => ac r15) fun r21 => ac (.next, r21)) (fun r20 => ag (nm r20 "parent" fun v27 => aa (am P0.okF v27 "modulus") fun v28 => aa (nm r20 "made" fun v29 => aa (ar P0.okF v29 "modulus" v28) fun _ => ac r20) fun r26 => ac (.next, r26)) (fun r25 => ag (nm r25 "parent" fun v32 => aa (am P0.okF v32 "small") fun v33 => aa (nm r25 "made" fun v34 => aa (ar P0.okF v34 "small" v33) fun _ => ac r25) fun r31 => ac (.next, r31)) (fun r30 => ag (nm r30 "parent" fun v37 => aa (am P0.okF v37 "index") fun v38 => aa (nm r30 "made" fun v39 => aa (ar P0.okF v39 "index" v38) fun _ => ac r30) fun r36 => ac (.next, r36)) (fun r35 => ag (nm r35 "parent" fun v42 => aa (am P0.okF v42 "component") fun v43 => aa (nm r35 "made" fun v44 => aa (ar P0.okF v44 "component" v43) fun _ => ac r35) fun r41 => ac (.next, r41)) (fun r40 => ag (nm r40 "parent" fun v47 => aa (am P0.okF v47 "is_constrained") fun v48 => aa (nm r40 "made" fun v49 => aa (ar P0.okF v49 "is_constrained" v48) fun _ => ac r40) fun r46 => ac (.next, r46)) (fun r45 => ag (nm r45 "parent" fun v52 => aa (am P0.okF v52 "discriminants") fun v53 => aa (nm r45 "made" fun v54 => aa (ar P0.okF v54 "discriminants" v53) fun _ => ac r45) fun r51 => ac (.next, r51)) (fun r50 => ag (nm r50 "parent" fun v57 => aa (am P0.okF v57 "components") fun v58 => aa (nm r50 "made" fun v59 => aa (ar P0.okF v59 "components" v58) fun _ => ac r50) fun r56 => ac (.next, r56)) (fun r55 => ag (nm r55 "parent" fun v62 => aa (am P0.okF v62 "variant") fun v63 => aa (nm r55 "made" fun v64 => aa (ar P0.okF v64 "variant" v63) fun _ => ac r55) fun r61 => ac (.next, r61)) (fun r60 => ag (nm r60 "parent" fun v67 => aa (am P0.okF v67 "designated") fun v68 => aa (nm r60 "made" fun v69 => aa (ar P0.okF v69 "designated" v68) fun _ => ac r60) fun r66 => ac (.next, r66)) (fun r65 => ag (nm r65 "parent" fun v72 => aa (am P0.okF v72 "is_constant") fun v73 => aa (nm r65 "made" fun v74 => aa (ar P0.okF v74 "is_constant" v73) fun _ => ac r65) fun r71 => ac (.next, r71)) (fun r70 => ag (nm r70 "parent" fun v77 => aa (am P0.okF v77 "is_tagged") fun v78 => aa (nm r70 "made" fun v79 => aa (ar P0.okF v79 "is_tagged" v78) fun _ => ac r70) fun r76 => ac (.next, r76)) (fun r75 => ag (nm r75 "parent" fun v82 => aa (am P0.okF v82 "is_limited") fun v83 => aa (nm r75 "made" fun v84 => aa (ar P0.okF v84 "is_limited" v83) fun _ => ac r75) fun r81 => ac (.next, r81)) (fun r80 => ag (nm r80 "parent" fun v87 => aa (am P0.okF v87 "operations") fun v88 => aa (aG "dict" [v88]) fun v89 => aa (nm r80 "made" fun v90 => aa (ar P0.okF v90 "operations" v89) fun _ => ac r80) fun r86 => ac (.next, r86)) (fun r85 => ag (nm r85 "made" fun v93 => ac (.ret v93, r85)) fun r92 => ac (.next, r92)))))))))))))))))))) := by kernel_rfl
theorem ji (d : Nat) (t0 number0 : MV) : fn (d + 2) "numbered" [t0, number0] = bF (ag (aa (aa (ar P0.okF t0 "number" number0) fun _ => ac (ext "t" t0 (ext "number" number0 []))) fun r2 => ac (.next, r2)) (fun r1 => ag (nm r1 "t" fun v5 => ac (.ret v5, r1)) fun r4 => ac (.next, r4))) := by kernel_rfl
theorem eG (d : Nat) (t0 : MV) : fn (d + 3) "whole_subtype" [t0] = bF (ag (aa (fn (d + 2) "Subtype" [t0, .none]) fun v3 => ac (.ret v3, (ext "t" t0 []))) fun r2 => ac (.next, r2)) := by kernel_rfl
theorem eJ (d : Nat) (t0 low0 high0 : MV) : fn (d + 3) "range_subtype" [t0, low0, high0] = bF (ag (aa (fn (d + 2) "Subtype" [t0, (.tup [(.str "range"), low0, high0])]) fun v3 => ac (.ret v3, (ext "t" t0 (ext "low" low0 (ext "high" high0 []))))) fun r2 => ac (.next, r2)) := by kernel_rfl
noncomputable abbrev zY (d : Nat) : KR := fun r51 => ag (aa (bq [nm r51 "home" fun v59 => aa (am P0.okF v59 "kind") fun v60 => aa (az .Eq v60 (.str "package")) fun v61 => ae v61, orB [nm r51 "other" fun v62 => aa (am P0.okF v62 "part") fun v63 => aa (az .Eq v63 (.str "visible")) fun v64 => ae v64, bq [nm r51 "is_within" fun v65 => ae v65, nm r51 "other" fun v66 => aa (am P0.okF v66 "part") fun v67 => aa (az .Eq v67 (.str "private")) fun v68 => ae v68]]]) fun c => if c then ag (nm r51 "found" fun v70 => aa (eO "append" v70) fun _ => nm r51 "other" fun v71 => aa (aM "append" v70 [v71]) fun v72 => ac (.next, r51)) fun r69 => ac (.next, r69) else ag (aa (bq [nm r51 "is_within" fun v74 => ae v74, nm r51 "other" fun v75 => aa (am P0.okF v75 "part") fun v76 => aa (az .Eq v76 (.str "body")) fun v77 => ae v77]) fun c => if c then ag (aa (orB [nm r51 "other" fun v79 => aa (am P0.okF v79 "is_implicit") fun v80 => ae v80, nm4 r51 "scope" "home" "other" "parent" fun v81 v82 v83 v84 => aa (fn (d + 3) "stands_for_implicit" [v81, v82, v83, v84]) fun v85 => ae v85]) fun c => if c then ag (nm r51 "found" fun v87 => aa (eO "append" v87) fun _ => nm r51 "other" fun v88 => aa (aM "append" v87 [v88]) fun v89 => ac (.next, r51)) fun r86 => ac (.next, r86) else ac (.next, r51)) fun r78 => ac (.next, r78) else ac (.next, r51)) fun r73 => ac (.next, r73)) fun r58 => ac (.next, r58)
noncomputable abbrev zX (d : Nat) : KR := fun r44 => ag (aa (bq [nm r44 "other" fun v52 => aa (am P0.okF v52 "is_implicit") fun v53 => ae v53, aa (nm3 r44 "scope" "other" "parent" fun v54 v55 v56 => aa (fn (d + 3) "is_inherited" [v54, v55, v56]) fun v57 => ae v57) fun b => ac (!b)]) fun c => if c then ac (.cont, r44) else ac (.next, r44)) (zY d)
noncomputable abbrev zW (d : Nat) : KR := fun r38 => ag (aa (bq [nm r38 "other" fun v45 => aa (am P0.okF v45 "is_overridden") fun v46 => ae v46, orB [nm r38 "is_within" fun v47 => ae v47, aa (nm2 r38 "home" "other" fun v48 v49 => aa (fn (d + 3) "stays_shown" [v48, v49]) fun v50 => ae v50) fun b => ac (!b)]]) fun c => if c then ac (.cont, r38) else ac (.next, r38)) (zX d)
noncomputable abbrev zV (d : Nat) : KB := fun x32 r33 => ag (aa (orB [aa (am P0.okF x32 "kind") fun v39 => aa (az .NotEq v39 (.str "sub")) fun v40 => ae v40, aa (nm r33 "parent" fun v41 => aa (am P0.okF v41 "number") fun v42 => aa (fn (d + 3) "mentions_type" [x32, v42]) fun v43 => ae v43) fun b => ac (!b)]) fun c => if c then ac (.cont, (ext "other" x32 r33)) else ac (.next, (ext "other" x32 r33))) (zW d)
noncomputable abbrev zU (d : Nat) : KR := fun r29 => ag (nm r29 "home" fun v36 => aa (am P0.okF v36 "order") fun v37 => aa (bw v37) fun s35 => ba s35.1 (zV d) s35.2 0 r29) (fun r31 => ag (nm r31 "found" fun v92 => ac (.ret v92, r31)) fun r91 => ac (.next, r91))
noncomputable abbrev zT (d : Nat) : KR := fun r23 => ag (aa (newL []) fun v30 => ac (.next, (ext "found" v30 r23))) (zU d)
noncomputable abbrev zS (d : Nat) : KR := fun r10 => ag (nm2 r10 "home" "scope" fun v24 v25 => aa (am P0.okF v25 "place") fun v26 => aa (fn (d + 3) "encloses" [v24, v26]) fun v27 => ac (.next, (ext "is_within" v27 r10))) (zT d)
noncomputable abbrev zR (d : Nat) : KR := fun r1 => ag (nm r1 "scope" fun v12 => aa (am P0.okF v12 "place") fun v13 => aa (am P0.okF v13 "root") fun v14 => aa (am P0.okF v14 "type_homes") fun v15 => nm r1 "parent" fun v16 => aa (am P0.okF v16 "number") fun v17 => aa (aw v15 v17) fun v18 => aa (unN v18 ["home", "part"] r1) fun r11 => ac (.next, r11)) (zS d)
theorem dJ (d : Nat) (scope0 parent0 : MV) : fn (d + 4) "operations_told" [scope0, parent0] = bF (ag (aa (aa (am P0.okF parent0 "number") fun v2 => aa (am P0.okF scope0 "place") fun v3 => aa (am P0.okF v3 "root") fun v4 => aa (am P0.okF v4 "type_homes") fun v5 => aa (az .NotIn v2 v5) fun v6 => ae v6) fun c => if c then ag (aa (newL []) fun v9 => ac (.ret v9, (ext "scope" scope0 (ext "parent" parent0 [])))) fun r8 => ac (.next, r8) else ac (.next, (ext "scope" scope0 (ext "parent" parent0 [])))) (zR d)) := by kernel_rfl
noncomputable abbrev zQ (d : Nat) : KB := fun x2 r3 => ag (nm3 r3 "scope" "t" "parent" fun v8 v9 v10 => aa (fn (d + 6) "declare_inherited" [v8, x2, v9, v10]) fun v11 => ac (.next, (ext "other" x2 r3))) fun r7 => ac (.next, r7)
theorem cE (d : Nat) (scope0 t0 parent0 : MV) : fn (d + 7) "inherit_operations" [scope0, t0, parent0] = bF (ag (aa (fn (d + 6) "operations_told" [scope0, parent0]) fun v6 => aa (bw v6) fun s5 => ba s5.1 (zQ d) s5.2 0 (ext "scope" scope0 (ext "t" t0 (ext "parent" parent0 [])))) fun r1 => ac (.next, r1)) := by kernel_rfl
noncomputable abbrev zP (r8 : Rho) : KC := fun x33 => aa (bq []) fun ok => if ok then aa (aa (nm r8 "t" fun v34 => aa (am P0.okF v34 "number") fun v35 => aa (az .Eq x33 v35) fun v36 => ae v36) fun c => if c then nm r8 "t" fun v37 => aa (am P0.okF v37 "parent") fun v38 => aa (am P0.okF v38 "number") fun v39 => ac v39 else ac x33) fun v40 => ac (some v40) else ac none
theorem cD (d : Nat) (scope0 other0 t0 : MV) : fn (d + 2) "is_inherited" [scope0, other0, t0] = bF (ag (aa (am P0.okF scope0 "place") fun v5 => aa (am P0.okF v5 "root") fun v6 => aa (am P0.okF v6 "type_homes") fun v7 => ac (.next, (ext "homes" v7 (ext "scope" scope0 (ext "other" other0 (ext "t" t0 [])))))) (fun r4 => ag (aa (orB [nm r4 "t" fun v9 => aa (am P0.okF v9 "parent") fun v10 => aa (az .Is v10 .none) fun v11 => ae v11, nm r4 "t" fun v12 => aa (am P0.okF v12 "parent") fun v13 => aa (am P0.okF v13 "number") fun v14 => nm r4 "homes" fun v15 => aa (az .NotIn v14 v15) fun v16 => ae v16]) fun c => if c then ac (.ret (.bool false), r4) else ac (.next, r4)) (fun r8 => ag (aW r8 <| nm r8 "other" fun v44 => aa (am P0.okF v44 "key") fun v45 => aa (aw v45 (.int 0)) fun v46 => aa (bw v46) fun s43 => aa (aH s43.1 ((zP r8)) s43.2 0) fun ys41 => if aC ys41 then aa (aG "tuple" [(.fz ys41)]) fun v47 => ac (.next, (ext "takes" v47 r8)) else ai) (fun r32 => ag (aa (aa (nm r32 "other" fun v62 => aa (am P0.okF v62 "key") fun v63 => aa (aw v63 (.int 1)) fun v64 => nm r32 "t" fun v65 => aa (am P0.okF v65 "number") fun v66 => aa (az .Eq v64 v66) fun v67 => ae v67) fun c => if c then nm r32 "t" fun v68 => aa (am P0.okF v68 "parent") fun v69 => aa (am P0.okF v69 "number") fun v70 => ac v70 else nm r32 "other" fun v71 => aa (am P0.okF v71 "key") fun v72 => aa (aw v72 (.int 1)) fun v73 => ac v73) fun v74 => ac (.next, (ext "gives" v74 r32))) (fun r61 => ag (nm2 r61 "homes" "t" fun v80 v81 => aa (am P0.okF v81 "parent") fun v82 => aa (am P0.okF v82 "number") fun v83 => aa (aw v80 v83) fun v84 => aa (aw v84 (.int 0)) fun v85 => aa (am P0.okF v85 "names") fun v86 => aa (eO "get" v86) fun _ => nm r61 "other" fun v87 => aa (am P0.okF v87 "name") fun v88 => aa (aM "get" v86 [v88, .fz []]) fun v89 => aa (bw v89) fun s79 => ba s79.1 (fun x76 r77 => ag (aa (bq [aa (am P0.okF x76 "kind") fun v91 => aa (az .Eq v91 (.str "sub")) fun v92 => ae v92, aa (am P0.okF x76 "key") fun v93 => nm2 r77 "takes" "gives" fun v94 v95 => aa (az .Eq v93 (.tup [v94, v95])) fun v96 => ae v96]) fun c => if c then ag (aa (mj [nm r77 "other" fun v109 => aa (am P0.okF v109 "data") fun v110 => aa (am P0.okF v110 "operation") fun v111 => aa (az .NotEq v111 (.str "")) fun v112 => ac v112, aa (am P0.okF x76 "data") fun v113 => aa (am P0.okF v113 "operation") fun v114 => nm r77 "other" fun v115 => aa (am P0.okF v115 "data") fun v116 => aa (am P0.okF v116 "operation") fun v117 => aa (az .Eq v114 v117) fun v118 => ac v118]) fun v119 => ac (.next, (ext "is_alike" v119 (ext "one" x76 r77)))) (fun r108 => ag (aa (orB [nm r108 "is_alike" fun v121 => ae v121, nm r108 "one" fun v122 => aa (am P0.okF v122 "unique") fun v123 => nm r108 "other" fun v124 => aa (am P0.okF v124 "unique") fun v125 => aa (az .Eq v123 v125) fun v126 => ae v126]) fun c => if c then ac (.ret (.bool true), r108) else ac (.next, r108)) fun r120 => ac (.next, r120)) else ac (.next, (ext "one" x76 r77))) fun r90 => ac (.next, r90)) s79.2 0 r61) (fun r75 => ac (.ret (.bool false), r75))))))) := by kernel_rfl
noncomputable abbrev zO (d : Nat) : KR := fun r1 => ag (aa (aa (orB [nm r1 "t" fun v22 => aa (am P0.okF v22 "is_tagged") fun v23 => ae v23, aa (nm r1 "subtype" fun v24 => aa (fn (d + 3) "is_settled" [v24]) fun v25 => ae v25) fun b => ac (!b)]) fun c => if c then nm r1 "t" fun v26 => aa (fn (d + 3) "whole_subtype" [v26]) fun v27 => ac v27 else nm2 r1 "t" "subtype" fun v28 v29 => aa (am P0.okF v29 "constraint") fun v30 => aa (fn (d + 3) "Subtype" [v28, v30]) fun v31 => ac v31) fun v32 => ac (.ret v32, r1)) fun r21 => ac (.next, r21)
theorem cb (d : Nat) (subtype0 t0 parent0 : MV) : fn (d + 4) "changed_subtype" [subtype0, t0, parent0] = bF (ag (aa (orB [aa (az .Is subtype0 .none) fun v2 => ae v2, aa (am P0.okF subtype0 "type") fun v3 => aa (am P0.okF v3 "number") fun v4 => aa (am P0.okF parent0 "number") fun v5 => aa (az .NotEq v4 v5) fun v6 => ae v6, aa (am P0.okF t0 "number") fun v7 => aa (am P0.okF parent0 "number") fun v8 => aa (az .Eq v7 v8) fun v9 => ae v9]) fun c => if c then ac (.ret subtype0, (ext "subtype" subtype0 (ext "t" t0 (ext "parent" parent0 [])))) else ac (.next, (ext "subtype" subtype0 (ext "t" t0 (ext "parent" parent0 []))))) (zO d)) := by kernel_rfl
noncomputable abbrev zN (d : Nat) (r4 : Rho) : KC := fun x10 => aa (bq []) fun ok => if ok then aa (aw x10 (.int 0)) fun v11 => aa (aw x10 (.int 1)) fun v12 => aa (aw x10 (.int 2)) fun v13 => nm2 r4 "t" "parent" fun v14 v15 => aa (fn (d + 4) "changed_subtype" [v13, v14, v15]) fun v16 => aa (aw x10 (.int 3)) fun v17 => ac (some (.tup [v11, v12, v16, v17])) else ac none
noncomputable abbrev zM (d : Nat) (r52 : Rho) : KC := fun x61 => aa (bq []) fun ok => if ok then aa (aw x61 (.int 0)) fun v62 => aa (aw x61 (.int 1)) fun v63 => aa (aw x61 (.int 2)) fun v64 => nm2 r52 "t" "parent" fun v65 v66 => aa (fn (d + 4) "changed_subtype" [v64, v65, v66]) fun v67 => aa (aw x61 (.int 3)) fun v68 => ac (some (.tup [v62, v63, v67, v68])) else ac none
noncomputable abbrev zL (d : Nat) : KR := fun r95 => ag (nm r95 "other" fun v124 => aa (am P0.okF v124 "name") fun v125 => nm2 r95 "key" "sub" fun v126 v127 => aa (am P0.okF v127 "result") fun v128 => nm2 r95 "sub" "scope" fun v129 v130 => aa (am P0.okF v130 "line") fun v131 => aa (fn (d + 4) "Entity" [(.str "sub"), v125, v126, v128, v129, v131]) fun v132 => ac (.next, (ext "entity" v132 r95))) (fun r123 => ag (aa (nm r123 "entity" fun v135 => aa (ar P0.okF v135 "is_implicit" (.bool true)) fun _ => ac r123) fun r134 => ac (.next, r134)) (fun r133 => ag (aa (nm r133 "entity" fun v138 => aa (ar P0.okF v138 "is_complete" (.bool true)) fun _ => ac r133) fun r137 => ac (.next, r137)) (fun r136 => ag (nm r136 "entity" fun v141 => ac (.ret v141, r136)) fun r140 => ac (.next, r140))))
noncomputable abbrev zK (d : Nat) : KR := fun r56 => ag (aW r56 <| nm r56 "sub" fun v103 => aa (am P0.okF v103 "params") fun v104 => aa (bw v104) fun s102 => aa (aH s102.1 ((fun x96 => aa (bq []) fun ok => if ok then aa (aw x96 (.int 2)) fun v97 => aa (am P0.okF v97 "type") fun v98 => aa (am P0.okF v98 "number") fun v99 => ac (some v99) else ac none)) s102.2 0) fun ys100 => if aC ys100 then aa (aG "tuple" [(.fz ys100)]) fun v105 => aa (aa (nm r56 "sub" fun v106 => aa (am P0.okF v106 "result") fun v107 => aa (az .Is v107 .none) fun v108 => ae v108) fun c => if c then ac (.int (-1)) else nm r56 "sub" fun v109 => aa (am P0.okF v109 "result") fun v110 => aa (am P0.okF v110 "type") fun v111 => aa (am P0.okF v111 "number") fun v112 => ac v112) fun v113 => ac (.next, (ext "key" (.tup [v105, v113]) r56)) else ai) (zL d)
noncomputable abbrev zJ (d : Nat) : KR := fun r52 => ag (aa (nm r52 "told" fun v57 => aa (az .IsNot v57 .none) fun v58 => ae v58) fun c => if c then ag (aW r52 <| nm r52 "told" fun v72 => aa (aw v72 (.int 0)) fun v73 => aa (bw v73) fun s71 => aa (aH s71.1 ((zM d r52)) s71.2 0) fun ys69 => if aC ys69 then nm r52 "told" fun v74 => aa (aw v74 (.int 1)) fun v75 => aa (nm r52 "sub" fun v76 => aa (ar P0.okF v76 "told" (.tup [(.fz ys69), v75])) fun _ => ac r52) fun r60 => ac (.next, r60) else ai) fun r59 => ac (.next, r59) else ac (.next, r52)) (zK d)
noncomputable abbrev zI (d : Nat) : KR := fun r34 => ag (nm r34 "other" fun v53 => aa (am P0.okF v53 "data") fun v54 => aa (am P0.okF v54 "told") fun v55 => ac (.next, (ext "told" v55 r34))) (zJ d)
noncomputable abbrev zH (d : Nat) : KR := fun r25 => ag (aa (nm r25 "t" fun v35 => aa (am P0.okF v35 "is_tagged") fun v36 => ae v36) fun c => if c then ag (nm r25 "other" fun v39 => aa (am P0.okF v39 "data") fun v40 => aa (am P0.okF v40 "operation") fun v41 => aa (nm r25 "sub" fun v42 => aa (ar P0.okF v42 "operation" v41) fun _ => ac r25) fun r38 => ac (.next, r38)) (fun r37 => ag (nm r37 "other" fun v45 => aa (am P0.okF v45 "data") fun v46 => aa (am P0.okF v46 "control") fun v47 => aa (nm r37 "sub" fun v48 => aa (ar P0.okF v48 "control" v47) fun _ => ac r37) fun r44 => ac (.next, r44)) fun r43 => ac (.next, r43)) else ac (.next, r25)) (zI d)
noncomputable abbrev zG (d : Nat) : KR := fun r8 => ag (nm r8 "other" fun v27 => aa (am P0.okF v27 "data") fun v28 => aa (am P0.okF v28 "result") fun v29 => nm2 r8 "t" "parent" fun v30 v31 => aa (fn (d + 4) "changed_subtype" [v29, v30, v31]) fun v32 => aa (nm r8 "sub" fun v33 => aa (ar P0.okF v33 "result" v32) fun _ => ac r8) fun r26 => ac (.next, r26)) (zH d)
noncomputable abbrev zF (d : Nat) : KR := fun r4 => ag (aW r4 <| nm r4 "other" fun v21 => aa (am P0.okF v21 "data") fun v22 => aa (am P0.okF v22 "params") fun v23 => aa (bw v23) fun s20 => aa (aH s20.1 ((zN d r4)) s20.2 0) fun ys18 => if aC ys18 then aa (nm r4 "sub" fun v24 => aa (ar P0.okF v24 "params" (.fz ys18)) fun _ => ac r4) fun r9 => ac (.next, r9) else ai) (zG d)
theorem dk (d : Nat) (scope0 other0 t0 parent0 : MV) : fn (d + 5) "inherited_entity" [scope0, other0, t0, parent0] = bF (ag (aa (am P0.okF other0 "data") fun v5 => aa (am P0.okF v5 "name") fun v6 => aa (fn (d + 4) "Sub" [v6]) fun v7 => ac (.next, (ext "sub" v7 (ext "scope" scope0 (ext "other" other0 (ext "t" t0 (ext "parent" parent0 []))))))) (zF d)) := by kernel_rfl
noncomputable abbrev zE (d : Nat) : KR := fun r8 => ag (aa (nm r8 "counts" fun v15 => aa (aw v15 (.str "#inherited")) fun v16 => aa (az .Gt v16 (.int 20000)) fun v17 => ae v17) fun c => if c then ag (nm r8 "scope" fun v19 => aa (fn (d + 2) "refuse" [v19, (.str "too many inherited subprograms and literals")]) fun v20 => ac (.next, r8)) fun r18 => ac (.next, r18) else ac (.next, r8)) fun r14 => ac (.next, r14)
noncomputable abbrev zD (d : Nat) : KR := fun r4 => ag (nm r4 "counts" fun v10 => aa (eO "get" v10) fun _ => aa (aM "get" v10 [(.str "#inherited"), (.int 0)]) fun v11 => aa (dz .Add v11 (.int 1)) fun v12 => aa (nm r4 "counts" fun v13 => aa (be v13 (.str "#inherited") v12) fun _ => ac r4) fun r9 => ac (.next, r9)) (zE d)
theorem ed (d : Nat) (scope0 : MV) : fn (d + 3) "count_implicit" [scope0] = bF (ag (aa (am P0.okF scope0 "place") fun v5 => aa (am P0.okF v5 "root") fun v6 => aa (am P0.okF v6 "counts") fun v7 => ac (.next, (ext "counts" v7 (ext "scope" scope0 [])))) (zD d)) := by kernel_rfl
noncomputable abbrev zC (d : Nat) : KR := fun r82 => ag (aa (aa (nm r82 "entity" fun v88 => aa (am P0.okF v88 "is_overridden") fun v89 => ae v89) fun b => ac (!b)) fun c => if c then ag (nm r82 "scope" fun v91 => aa (am P0.okF v91 "place") fun v92 => nm r82 "entity" fun v93 => aa (fn (d + 5) "lead_to" [v92, v93]) fun v94 => ac (.next, r82)) fun r90 => ac (.next, r90) else ag (aa (bq [nm r82 "t" fun v96 => aa (am P0.okF v96 "is_tagged") fun v97 => ae v97, nm r82 "key" fun v98 => aa (az .NotEq v98 (.str "")) fun v99 => ae v99]) fun c => if c then ag (nm3 r82 "scope" "entity" "t" fun v101 v102 v103 => aa (fn (d + 5) "stand_in" [v101, v102, v103]) fun v104 => ac (.next, r82)) fun r100 => ac (.next, r100) else ac (.next, r82)) fun r95 => ac (.next, r95)) fun r87 => ac (.next, r87)
noncomputable abbrev zB (d : Nat) : KR := fun r77 => ag (nm r77 "other" fun v84 => aa (am P0.okF v84 "home") fun v85 => aa (nm r77 "entity" fun v86 => aa (ar P0.okF v86 "home" v85) fun _ => ac r77) fun r83 => ac (.next, r83)) (zC d)
noncomputable abbrev zA (d : Nat) : KR := fun r62 => ag (nm r62 "other" fun v79 => aa (am P0.okF v79 "unique") fun v80 => aa (nm r62 "entity" fun v81 => aa (ar P0.okF v81 "unique" v80) fun _ => ac r62) fun r78 => ac (.next, r78)) (zB d)
noncomputable abbrev zz (d : Nat) : KR := fun r57 => ag (aa (bq [nm r57 "t" fun v63 => aa (am P0.okF v63 "is_tagged") fun v64 => ae v64, nm r57 "is_maker" fun v65 => ae v65, nm2 r57 "key" "t" fun v66 v67 => aa (am P0.okF v67 "operations") fun v68 => aa (az .In v66 v68) fun v69 => ae v69, aa (nm r57 "entity" fun v70 => aa (am P0.okF v70 "is_overridden") fun v71 => ae v71) fun b => ac (!b)]) fun c => if c then ag (aa (nm r57 "t" fun v74 => aa (am P0.okF v74 "operations") fun v75 => nm r57 "key" fun v76 => aa (be v75 v76 (.str "")) fun _ => ac r57) fun r73 => ac (.next, r73)) fun r72 => ac (.next, r72) else ac (.next, r57)) (zA d)
noncomputable abbrev zy (d : Nat) : KR := fun r51 => ag (nm r51 "scope" fun v58 => aa (am P0.okF v58 "place") fun v59 => nm r51 "entity" fun v60 => aa (fn (d + 5) "declare_ready" [v59, v60]) fun v61 => ac (.next, r51)) (zz d)
noncomputable abbrev zx (d : Nat) : KR := fun r43 => ag (nm4 r43 "scope" "other" "t" "parent" fun v52 v53 v54 v55 => aa (fn (d + 5) "inherited_entity" [v52, v53, v54, v55]) fun v56 => ac (.next, (ext "entity" v56 r43))) (zy d)
noncomputable abbrev zw (d : Nat) : KR := fun r33 => ag (nm r33 "scope" fun v44 => aa (fn (d + 5) "count_implicit" [v44]) fun v45 => ac (.next, r33)) (zx d)
noncomputable abbrev zv (d : Nat) : KR := fun r19 => ag (aa (bq [nm r19 "t" fun v34 => aa (am P0.okF v34 "is_tagged") fun v35 => ae v35, nm r19 "is_maker" fun v36 => ae v36, nm r19 "key" fun v37 => aa (eO "split" v37) fun _ => aa (aM "split" v37 [(.str " ")]) fun v38 => aa (aw v38 (.int 0)) fun v39 => nm r19 "other" fun v40 => aa (am P0.okF v40 "name") fun v41 => aa (az .NotEq v39 v41) fun v42 => ae v42]) fun c => if c then ac (.ret .none, r19) else ac (.next, r19)) (zw d)
noncomputable abbrev zu (d : Nat) : KR := fun r3 => ag (aa (mj [nm r3 "other" fun v20 => aa (am P0.okF v20 "data") fun v21 => aa (am P0.okF v21 "result") fun v22 => aa (az .IsNot v22 .none) fun v23 => ac v23, nm r3 "other" fun v24 => aa (am P0.okF v24 "data") fun v25 => aa (am P0.okF v25 "result") fun v26 => aa (am P0.okF v26 "type") fun v27 => aa (am P0.okF v27 "number") fun v28 => nm r3 "parent" fun v29 => aa (am P0.okF v29 "number") fun v30 => aa (az .Eq v28 v30) fun v31 => ac v31]) fun v32 => ac (.next, (ext "is_maker" v32 r3))) (zv d)
theorem cW (d : Nat) (scope0 other0 t0 parent0 : MV) : fn (d + 6) "declare_inherited" [scope0, other0, t0, parent0] = bF (ag (aa (am P0.okF other0 "data") fun v4 => aa (am P0.okF v4 "operation") fun v5 => ac (.next, (ext "key" v5 (ext "scope" scope0 (ext "other" other0 (ext "t" t0 (ext "parent" parent0 []))))))) (zu d)) := by kernel_rfl
theorem jk (d : Nat) (pen0 many0 : MV) : fn (d + 2) "_law_draw" [pen0, many0] = bF (ag (aa (aw pen0 (.int 1)) fun v3 => ac (.next, (ext "at" v3 (ext "pen" pen0 (ext "many" many0 []))))) (fun r2 => ag (nm r2 "at" fun v6 => aa (dz .Add v6 (.int 1)) fun v7 => aa (nm r2 "pen" fun v8 => aa (be v8 (.int 1) v7) fun _ => ac r2) fun r5 => ac (.next, r5)) (fun r4 => ag (aa (nm2 r4 "at" "pen" fun v10 v11 => aa (aw v11 (.int 0)) fun v12 => aa (aG "len" [v12]) fun v13 => aa (az .Lt v10 v13) fun v14 => ae v14) fun c => if c then ag (nm r4 "pen" fun v22 => aa (aw v22 (.int 0)) fun v23 => nm r4 "at" fun v24 => aa (aw v23 v24) fun v25 => nm r4 "many" fun v26 => aa (dz .Mod v25 v26) fun v27 => ac (.ret v27, r4)) fun r21 => ac (.next, r21) else ac (.next, r4)) (fun r9 => ag (nm r9 "at" fun v39 => aa (dz .Mult (.int 5) v39) fun v40 => nm r9 "at" fun v41 => aa (dz .Mult v40 v41) fun v42 => nm r9 "at" fun v43 => aa (dz .Mult (.int 3) v43) fun v44 => aa (dz .Add v42 v44) fun v45 => aa (dz .Add v45 (.int 1)) fun v46 => nm r9 "many" fun v47 => aa (dz .Mod v46 v47) fun v48 => ac (.ret v48, r9)) fun r38 => ac (.next, r38))))) := by kernel_rfl
noncomputable abbrev zr (d : Nat) : KR := fun r7 => ag (nm2 r7 "region" "subtype" fun v12 v13 => aa (am P0.okF v13 "type") fun v14 => aa (am P0.okF v14 "number") fun v15 => aa (fn (d + 5) "note_type" [v12, v15]) fun v16 => ac (.next, r7)) (fun r11 => ag (nm r11 "entity" fun v19 => ac (.ret v19, r11)) fun r18 => ac (.next, r18))
noncomputable abbrev zq (d : Nat) : KR := fun r4 => ag (nm2 r4 "region" "entity" fun v8 v9 => aa (fn (d + 5) "declare_ready" [v8, v9]) fun v10 => ac (.next, r4)) (zr d)
noncomputable abbrev zp (d : Nat) : KR := fun r2 => ag (aa (nm r2 "entity" fun v6 => aa (ar P0.okF v6 "is_complete" (.bool true)) fun _ => ac r2) fun r5 => ac (.next, r5)) (zq d)
theorem jj (d : Nat) (region0 name0 subtype0 : MV) : fn (d + 6) "_law_tell" [region0, name0, subtype0] = bF (ag (aa (fn (d + 5) "Entity" [(.str "type"), name0, .none, subtype0, .none, (.int 1)]) fun v3 => ac (.next, (ext "entity" v3 (ext "region" region0 (ext "name" name0 (ext "subtype" subtype0 [])))))) (zp d)) := by kernel_rfl
noncomputable abbrev zo (d : Nat) : KR := fun r4 => ag (nm2 r4 "entity" "around" fun v12 v13 => aa (fn (d + 5) "open_region" [(.str "package"), v12, v13]) fun v14 => ac (.ret v14, r4)) fun r11 => ac (.next, r11)
noncomputable abbrev zn (d : Nat) : KR := fun r2 => ag (nm2 r2 "around" "entity" fun v5 v6 => aa (fn (d + 5) "declare_ready" [v5, v6]) fun v7 => ac (.next, r2)) (zo d)
theorem gg (d : Nat) (name0 around0 : MV) : fn (d + 6) "_law_package" [name0, around0] = bF (ag (aa (fn (d + 5) "Entity" [(.str "package"), name0, .none, .none, .none, (.int 1)]) fun v3 => ac (.next, (ext "entity" v3 (ext "name" name0 (ext "around" around0 []))))) (zn d)) := by kernel_rfl
noncomputable abbrev zm (d : Nat) : KR := fun r23 => ag (nm3 r23 "scope" "made" "parent" fun v28 v29 v30 => aa (fn (d + 7) "inherit_operations" [v28, v29, v30]) fun v31 => ac (.next, r23)) (fun r27 => ag (nm2 r27 "made" "place" fun v38 v39 => aa (am P0.okF v39 "order") fun v40 => nm r27 "before" fun v41 => aa (lP v40 v41 .none) fun v42 => ac (.ret (.tup [v38, v42]), r27)) fun r37 => ac (.next, r37))
noncomputable abbrev zk (d : Nat) : KR := fun r14 => ag (nm r14 "place" fun v24 => aa (am P0.okF v24 "order") fun v25 => aa (aG "len" [v25]) fun v26 => ac (.next, (ext "before" v26 r14))) (zm d)
noncomputable abbrev zj (d : Nat) : KR := fun r8 => ag (nm3 r8 "place" "name" "made" fun v15 v16 v17 => aa (fn (d + 7) "whole_subtype" [v17]) fun v18 => aa (fn (d + 7) "_law_tell" [v15, v16, v18]) fun v19 => ac (.next, r8)) (zk d)
noncomputable abbrev zi (d : Nat) : KR := fun r1 => ag (nm2 r1 "parent" "name" fun v9 v10 => aa (fn (d + 7) "derived_type" [v9, v10]) fun v11 => nm r1 "number" fun v12 => aa (fn (d + 7) "numbered" [v11, v12]) fun v13 => ac (.next, (ext "made" v13 r1))) (zj d)
theorem gQ (d : Nat) (scope0 place0 parent0 name0 number0 : MV) : fn (d + 8) "_law_derive" [scope0, place0, parent0, name0, number0] = bF (ag (aa (aa (ar P0.okF scope0 "place" place0) fun _ => ac (ext "scope" scope0 (ext "place" place0 (ext "parent" parent0 (ext "name" name0 (ext "number" number0 [])))))) fun r2 => ac (.next, r2)) (zi d)) := by kernel_rfl
noncomputable abbrev zh (d : Nat) (r3 : Rho) : KC := fun x17 => aa (bq []) fun ok => if ok then nm2 r3 "subtypes" "pen" fun v18 v19 => aa (fn (d + 5) "_law_draw" [v19, (.int 2)]) fun v20 => aa (aw v18 v20) fun v21 => ac (some v21) else ac none
noncomputable abbrev zg (r49 : Rho) : KC := fun x76 => aa (bq [bq [aa (lP x76 .none (.int 3)) fun v77 => nm3 r49 "name" "numbers" "answer" fun v78 v79 v80 => aa (az .Eq v77 (.fz [v78, v79, v80])) fun v81 => ae v81, aa (aa (aw x76 (.int 5)) fun v82 => ae v82) fun b => ac (!b)]]) fun ok => if ok then ac (some x76) else ac none
noncomputable abbrev zf (r107 : Rho) : KC := fun x112 => aa (bq []) fun ok => if ok then aa (aG "str" [x112]) fun v113 => aa (dz .Add (.str "x") v113) fun v114 => nm r107 "params" fun v115 => aa (aw v115 x112) fun v116 => ac (some (.tup [v114, (.str "in"), v116, .none])) else ac none
noncomputable abbrev ze (d : Nat) : KR := fun r142 => ag (nm2 r142 "region" "entity" fun v148 v149 => aa (fn (d + 5) "declare_ready" [v148, v149]) fun v150 => ac (.next, r142)) (fun r147 => ag (nm r147 "rivals" fun v156 => aa (bw v156) fun s155 => ba s155.1 (fun x152 r153 => ag (aa (orM [aa (aw x152 (.int 5)) fun v159 => ac v159, nm r153 "is_taken" fun v161 => aa (ae v161) fun b160 => ac (.bool (!b160))]) fun v162 => aa (aa (be x152 (.int 5) v162) fun _ => ac (ext "row" x152 r153)) fun r158 => ac (.next, r158)) fun r157 => ac (.next, r157)) s155.2 0 r147) (fun r151 => ag (nm r151 "laid" fun v164 => aa (eO "append" v164) fun _ => nm4 r151 "name" "numbers" "answer" "part" fun v165 v166 v167 v168 => nm3 r151 "is_implicit" "is_taken" "entity" fun v169 v170 v171 => aa (newL [v165, v166, v167, v168, v169, v170, v171]) fun v172 => aa (aM "append" v164 [v172]) fun v173 => ac (.next, r151)) fun r163 => ac (.next, r163)))
noncomputable abbrev zd (d : Nat) : KR := fun r134 => ag (nm r134 "is_implicit" fun v144 => aa (un2 (.tup [v144, (.bool true)]) fun x y => nm r134 "entity" fun v145 => aa (ar P0.okF v145 "is_implicit" x) fun _ => nm r134 "entity" fun v146 => aa (ar P0.okF v146 "is_complete" y) fun _ => ac r134) fun r143 => ac (.next, r143)) (ze d)
noncomputable abbrev zc (d : Nat) : KR := fun r123 => ag (nm2 r123 "name" "numbers" fun v135 v136 => aa (aG "tuple" [v136]) fun v137 => nm3 r123 "answer" "result" "sub" fun v138 v139 v140 => aa (fn (d + 5) "Entity" [(.str "sub"), v135, (.tup [v137, v138]), v139, v140, (.int 1)]) fun v141 => ac (.next, (ext "entity" v141 r123))) (zd d)
noncomputable abbrev zb (d : Nat) : KR := fun r110 => ag (nm r110 "result" fun v125 => aa (nm r110 "sub" fun v126 => aa (ar P0.okF v126 "result" v125) fun _ => ac r110) fun r124 => ac (.next, r124)) (zc d)
noncomputable abbrev za (d : Nat) : KR := fun r107 => ag (aW r107 <| nm r107 "params" fun v120 => aa (aG "len" [v120]) fun v121 => pe v121 fun s119 => aa (aH s119.1 ((zf r107)) s119.2 0) fun ys117 => if aC ys117 then aa (nm r107 "sub" fun v122 => aa (ar P0.okF v122 "params" (.fz ys117)) fun _ => ac r107) fun r111 => ac (.next, r111) else ai) (zb d)
noncomputable abbrev y9 (d : Nat) : KR := fun r102 => ag (nm r102 "name" fun v108 => aa (fn (d + 5) "Sub" [v108]) fun v109 => ac (.next, (ext "sub" v109 r102))) (za d)
noncomputable abbrev y8 (d : Nat) : KR := fun r94 => ag (aa (bq [nm r94 "is_taken" fun v103 => ae v103, aa (nm r94 "is_implicit" fun v104 => ae v104) fun b => ac (!b)]) fun c => if c then ac (.ret .none, r94) else ac (.next, r94)) (y9 d)
noncomputable abbrev y0 (d : Nat) : KR := fun r75 => ag (aW r75 <| nm r75 "rivals" fun v101 => aa (bw v101) fun s100 => aa (aH s100.1 ((fun x96 => aa (bq [aa (aa (aw x96 (.int 4)) fun v97 => ae v97) fun b => ac (!b)]) fun ok => if ok then ac (some x96) else ac none)) s100.2 0) fun ys98 => if aC ys98 then aa (nt (.fz ys98)) fun b95 => ac (.next, (ext "is_taken" (.bool (!b95)) r75)) else ai) (y8 d)
noncomputable abbrev yZ (d : Nat) : KR := fun r49 => ag (aW r49 <| nm r49 "laid" fun v86 => aa (bw v86) fun s85 => aa (aH s85.1 ((zg r49)) s85.2 0) fun ys83 => if aC ys83 then ac (.next, (ext "rivals" (.fz ys83) r49)) else ai) (y0 d)
noncomputable abbrev yY (d : Nat) : KR := fun r45 => ag (aW r45 <| nm r45 "params" fun v57 => aa (bw v57) fun s56 => aa (aH s56.1 ((fun x51 => aa (bq []) fun ok => if ok then aa (am P0.okF x51 "type") fun v52 => aa (am P0.okF v52 "number") fun v53 => ac (some v53) else ac none)) s56.2 0) fun ys54 => if aC ys54 then aa (aa (nm r45 "result" fun v58 => aa (az .Is v58 .none) fun v59 => ae v59) fun c => if c then ac (.int (-1)) else nm r45 "result" fun v60 => aa (am P0.okF v60 "type") fun v61 => aa (am P0.okF v61 "number") fun v62 => ac v62) fun v63 => aa (unN (.tup [(.fz ys54), v63]) ["numbers", "answer"] r45) fun r50 => ac (.next, r50) else ai) (yZ d)
noncomputable abbrev yX (d : Nat) : KR := fun r34 => ag (nm r34 "pen" fun v46 => aa (fn (d + 5) "_law_draw" [v46, (.int 4)]) fun v47 => aa (az .Eq v47 (.int 1)) fun v48 => ac (.next, (ext "is_implicit" v48 r34))) (yY d)
noncomputable abbrev yW (d : Nat) : KR := fun r16 => ag (nm r16 "subtypes" fun v35 => aa (aw v35 (.int 0)) fun v36 => nm r16 "subtypes" fun v37 => aa (aw v37 (.int 1)) fun v38 => nm r16 "pen" fun v39 => aa (fn (d + 5) "_law_draw" [v39, (.int 3)]) fun v40 => aa (aw (.tup [.none, v36, v38]) v40) fun v41 => ac (.next, (ext "result" v41 r16))) (yX d)
noncomputable abbrev yV (d : Nat) : KR := fun r3 => ag (aW r3 <| nm r3 "pen" fun v25 => aa (fn (d + 5) "_law_draw" [v25, (.int 3)]) fun v26 => pe v26 fun s24 => aa (aH s24.1 ((zh d r3)) s24.2 0) fun ys22 => if aC ys22 then ac (.next, (ext "params" (.fz ys22) r3)) else ai) (yW d)
theorem lj (d : Nat) (pen0 region0 subtypes0 part0 laid0 : MV) : fn (d + 6) "_law_lay" [pen0, region0, subtypes0, part0, laid0] = bF (ag (aa (fn (d + 5) "_law_draw" [pen0, (.int 3)]) fun v4 => aa (aw (.str "fgh") v4) fun v5 => ac (.next, (ext "name" v5 (ext "pen" pen0 (ext "region" region0 (ext "subtypes" subtypes0 (ext "part" part0 (ext "laid" laid0 [])))))))) (yV d)) := by kernel_rfl
theorem gf (d : Nat) (number0 old0 new0 : MV) : fn (d + 2) "_law_swapped" [number0, old0, new0] = bF (ag (aa (aa (aa (az .Eq number0 old0) fun v4 => ae v4) fun c => if c then ac new0 else ac number0) fun v5 => ac (.ret v5, (ext "number" number0 (ext "old" old0 (ext "new" new0 []))))) fun r3 => ac (.next, r3)) := by kernel_rfl
noncomputable abbrev yo (d : Nat) (r8 : Rho) : KC := fun x23 => aa (bq []) fun ok => if ok then nm2 r8 "old" "new" fun v24 v25 => aa (fn (d + 2) "_law_swapped" [x23, v24, v25]) fun v26 => ac (some v26) else ac none
noncomputable abbrev yn (d : Nat) : KR := fun r8 => ag (nm r8 "found" fun v21 => aa (eO "append" v21) fun _ => nm r8 "name" fun v22 => aW r8 <| nm r8 "numbers" fun v30 => aa (bw v30) fun s29 => aa (aH s29.1 ((yo d r8)) s29.2 0) fun ys27 => if aC ys27 then nm3 r8 "answer" "old" "new" fun v31 v32 v33 => aa (fn (d + 2) "_law_swapped" [v31, v32, v33]) fun v34 => nm r8 "entity" fun v35 => aa (am P0.okF v35 "unique") fun v36 => nm r8 "entity" fun v37 => aa (am P0.okF v37 "home") fun v38 => aa (am P0.okF v38 "number") fun v39 => aa (aM "append" v21 [(.tup [v22, (.fz ys27), v34, v36, v39])]) fun v40 => ac (.next, r8) else ai) fun r20 => ac (.next, r20)
noncomputable abbrev ym (d : Nat) : KB := fun x5 r6 => aa (unN x5 ["name", "numbers", "answer", "part", "is_implicit", "is_over", "entity"] r6) fun r7 => ag (aa (orB [nm r7 "entity" fun v9 => aa (am P0.okF v9 "is_implicit") fun v10 => ae v10, nm r7 "is_over" fun v11 => ae v11, nm3 r7 "old" "numbers" "answer" fun v12 v13 v14 => aa (dz .Add v13 (.fz [v14])) fun v15 => aa (az .NotIn v12 v15) fun v16 => ae v16, bq [nm r7 "part" fun v17 => aa (az .Eq v17 (.str "private")) fun v18 => ae v18, aa (nm r7 "is_near" fun v19 => ae v19) fun b => ac (!b)]]) fun c => if c then ac (.cont, r7) else ac (.next, r7)) (yn d)
noncomputable abbrev yl (d : Nat) : KR := fun r2 => ag (nm r2 "laid" fun v42 => aa (bw v42) fun s41 => ba s41.1 (ym d) s41.2 0 r2) (fun r4 => ag (nm r4 "found" fun v45 => ac (.ret v45, r4)) fun r44 => ac (.next, r44))
theorem lm (d : Nat) (laid0 is_near0 old0 new0 : MV) : fn (d + 3) "_law_due" [laid0, is_near0, old0, new0] = bF (ag (aa (newL []) fun v3 => ac (.next, (ext "found" v3 (ext "laid" laid0 (ext "is_near" is_near0 (ext "old" old0 (ext "new" new0 []))))))) (yl d)) := by kernel_rfl
noncomputable abbrev yk (r79 : Rho) : KC := fun x105 => aa (bq [bq [aa (am P0.okF x105 "type") fun v106 => aa (am P0.okF v106 "number") fun v107 => nm r79 "number" fun v108 => aa (az .Eq v107 v108) fun v109 => ae v109, aa (am P0.okF x105 "constraint") fun v110 => nm r79 "bounds" fun v111 => aa (az .NotEq v110 v111) fun v112 => ae v112]]) fun ok => if ok then ac (some x105) else ac none
noncomputable abbrev yj (r97 : Rho) : KC := fun x119 => aa (bq [aa (am P0.okF x119 "number") fun v120 => nm r97 "one" fun v121 => aa (am P0.okF v121 "number") fun v122 => aa (az .Eq v120 v122) fun v123 => ae v123]) fun ok => if ok then ac (some x119) else ac none
noncomputable abbrev yi (d : Nat) : KR := fun r97 => ag (aa (aW r97 <| nm r97 "scope" fun v127 => aa (am P0.okF v127 "place") fun v128 => nm r97 "one" fun v129 => aa (am P0.okF v129 "name") fun v130 => aa (fn (d + 7) "look_up" [v128, v130]) fun v131 => aa (bw v131) fun s126 => aa (aH s126.1 ((yj r97)) s126.2 0) fun ys124 => if aC ys124 then aa (nt (.fz ys124)) fun b118 => ae (.bool b118) else ai) fun c => if c then ac (.ret (.bool false), r97) else ac (.next, r97)) (fun r117 => ag (nm r117 "heard" fun v133 => aa (eO "append" v133) fun _ => nm r117 "one" fun v134 => aa (am P0.okF v134 "name") fun v135 => nm3 r117 "numbers" "answer" "one" fun v136 v137 v138 => aa (am P0.okF v138 "unique") fun v139 => nm r117 "one" fun v140 => aa (am P0.okF v140 "home") fun v141 => aa (am P0.okF v141 "number") fun v142 => aa (aM "append" v133 [(.tup [v135, v136, v137, v139, v142])]) fun v143 => ac (.next, r117)) fun r132 => ac (.next, r132))
noncomputable abbrev yh (d : Nat) : KR := fun r79 => ag (aa (orB [nm r79 "one" fun v98 => aa (am P0.okF v98 "key") fun v99 => nm r79 "numbers" fun v100 => aa (aG "tuple" [v100]) fun v101 => nm r79 "answer" fun v102 => aa (az .NotEq v99 (.tup [v101, v102])) fun v103 => ae v103, aW r79 <| nm r79 "told" fun v116 => aa (bw v116) fun s115 => aa (aH s115.1 ((yk r79)) s115.2 0) fun ys113 => if aC ys113 then aa (nt (.fz ys113)) fun b104 => ae (.bool (!b104)) else ai]) fun c => if c then ac (.ret (.bool false), r79) else ac (.next, r79)) (yi d)
noncomputable abbrev yg (d : Nat) : KR := fun r51 => ag (aW r51 <| nm r51 "one" fun v85 => aa (am P0.okF v85 "data") fun v86 => aa (am P0.okF v86 "params") fun v87 => aa (bw v87) fun s84 => aa (aH s84.1 ((fun x80 => aa (bq []) fun ok => if ok then aa (aw x80 (.int 2)) fun v81 => ac (some v81) else ac none)) s84.2 0) fun ys82 => if aC ys82 then aa (aa (nm r51 "answer" fun v88 => aa (az .Lt v88 (.int 0)) fun v89 => ae v89) fun c => if c then aa (newL []) fun v90 => ac v90 else nm r51 "one" fun v91 => aa (am P0.okF v91 "data") fun v92 => aa (am P0.okF v92 "result") fun v93 => aa (newL [v93]) fun v94 => ac v94) fun v95 => aa (dz .Add (.fz ys82) v95) fun v96 => ac (.next, (ext "told" v96 r51)) else ai) (yh d)
noncomputable abbrev yf (d : Nat) : KR := fun r30 => ag (aa (aa (nm r30 "one" fun v52 => aa (am P0.okF v52 "data") fun v53 => aa (am P0.okF v53 "result") fun v54 => aa (az .Is v54 .none) fun v55 => ae v55) fun c => if c then ac (.int (-1)) else nm r30 "one" fun v56 => aa (am P0.okF v56 "data") fun v57 => aa (am P0.okF v57 "result") fun v58 => aa (am P0.okF v58 "type") fun v59 => aa (am P0.okF v59 "number") fun v60 => ac v60) fun v61 => ac (.next, (ext "answer" v61 r30))) (yg d)
noncomputable abbrev ye (d : Nat) : KR := fun r10 => ag (aW r10 <| nm r10 "one" fun v38 => aa (am P0.okF v38 "data") fun v39 => aa (am P0.okF v39 "params") fun v40 => aa (bw v40) fun s37 => aa (aH s37.1 ((fun x31 => aa (bq []) fun ok => if ok then aa (aw x31 (.int 2)) fun v32 => aa (am P0.okF v32 "type") fun v33 => aa (am P0.okF v33 "number") fun v34 => ac (some v34) else ac none)) s37.2 0) fun ys35 => if aC ys35 then ac (.next, (ext "numbers" (.fz ys35) r10)) else ai) (yf d)
noncomputable abbrev yd (d : Nat) : KB := fun x5 r6 => ag (aa (orB [aa (am P0.okF x5 "kind") fun v11 => aa (az .NotEq v11 (.str "sub")) fun v12 => ae v12, aa (aa (am P0.okF x5 "is_implicit") fun v13 => ae v13) fun b => ac (!b), aa (am P0.okF x5 "is_overridden") fun v14 => ae v14, nm r6 "scope" fun v15 => aa (am P0.okF v15 "place") fun v16 => aa (fn (d + 7) "ups_to" [v16, x5]) fun v17 => nm r6 "ups" fun v18 => aa (az .NotEq v17 v18) fun v19 => ae v19]) fun c => if c then ac (.ret (.bool false), (ext "one" x5 r6)) else ac (.next, (ext "one" x5 r6))) (ye d)
noncomputable abbrev yc (d : Nat) : KR := fun r2 => ag (nm r2 "entities" fun v9 => aa (bw v9) fun s8 => ba s8.1 (yd d) s8.2 0 r2) (fun r4 => ag (nm2 r4 "heard" "due" fun v148 v149 => aa (az .Eq v148 v149) fun v150 => ac (.ret v150, r4)) fun r147 => ac (.next, r147))
theorem ll (d : Nat) (scope0 entities0 due0 number0 ups0 bounds0 : MV) : fn (d + 8) "_law_has" [scope0, entities0, due0, number0, ups0, bounds0] = bF (ag (aa (newL []) fun v3 => ac (.next, (ext "heard" v3 (ext "scope" scope0 (ext "entities" entities0 (ext "due" due0 (ext "number" number0 (ext "ups" ups0 (ext "bounds" bounds0 []))))))))) (yc d)) := by kernel_rfl
noncomputable abbrev yb (d : Nat) : KB := fun x94 r95 => ag (nm4 r95 "pen" "region" "subtypes" "laid" fun v102 v103 v104 v105 => aa (fn (d + 8) "_law_lay" [v102, v103, v104, (.str "visible"), v105]) fun v106 => ac (.next, (ext "turn" x94 r95))) fun r101 => ac (.next, r101)
noncomputable abbrev ya (d : Nat) : KB := fun x124 r125 => ag (nm4 r125 "pen" "region" "subtypes" "laid" fun v131 v132 v133 v134 => aa (fn (d + 8) "_law_lay" [v131, v132, v133, (.str "private"), v134]) fun v135 => ac (.next, (ext "turn" x124 r125))) fun r130 => ac (.next, r130)
noncomputable abbrev x8 (d : Nat) : KC := fun x243 => aa (bq []) fun ok => if ok then aa (fn (d + 8) "_law_swapped" [x243, (.int 72), (.int 73)]) fun v244 => ac (some v244) else ac none
noncomputable abbrev xZ (d : Nat) (r218 : Rho) : KC := fun x241 => aa (bq []) fun ok => if ok then aa (aw x241 (.int 0)) fun v242 => aW r218 <| aa (aw x241 (.int 1)) fun v248 => aa (bw v248) fun s247 => aa (aH s247.1 ((x8 d)) s247.2 0) fun ys245 => if aC ys245 then aa (aw x241 (.int 2)) fun v249 => aa (fn (d + 8) "_law_swapped" [v249, (.int 72), (.int 73)]) fun v250 => aa (aw x241 (.int 3)) fun v251 => aa (aw x241 (.int 4)) fun v252 => ac (some (.tup [v242, (.fz ys245), v250, v251, v252])) else ai else ac none
noncomputable abbrev xY (d : Nat) : KR := fun r240 => ag (nm4 r240 "scope" "brought" "due" "way" fun v268 v269 v270 v271 => aa (az .Gt v271 (.int 2)) fun v272 => aa (aG "int" [v272]) fun v273 => nm r240 "subtypes" fun v274 => aa (aw v274 (.int 0)) fun v275 => aa (am P0.okF v275 "constraint") fun v276 => aa (fn (d + 8) "_law_has" [v268, v269, v270, (.int 73), v273, v276]) fun v277 => ac (.ret v277, r240)) fun r267 => ac (.next, r267)
noncomputable abbrev xX (d : Nat) : KR := fun r218 => ag (aW r218 <| nm r218 "due" fun v256 => aa (bw v256) fun s255 => aa (aH s255.1 ((xZ d r218)) s255.2 0) fun ys253 => if aC ys253 then ac (.next, (ext "due" (.fz ys253) r218)) else ai) (xY d)
noncomputable abbrev xW (d : Nat) : KR := fun r207 => ag (nm3 r207 "scope" "place" "made" fun v220 v221 v222 => aa (fn (d + 8) "_law_derive" [v220, v221, v222, (.str "e"), (.int 73)]) fun v223 => aa (unN v223 ["made", "brought"] r207) fun r219 => ac (.next, r219)) (xX d)
noncomputable abbrev xV (d : Nat) : KR := fun r202 => ag (aa (aa (nm4 r202 "scope" "brought" "due" "way" fun v208 v209 v210 v211 => aa (az .Gt v211 (.int 2)) fun v212 => aa (aG "int" [v212]) fun v213 => nm r202 "subtypes" fun v214 => aa (aw v214 (.int 0)) fun v215 => aa (am P0.okF v215 "constraint") fun v216 => aa (fn (d + 8) "_law_has" [v208, v209, v210, (.int 72), v213, v216]) fun v217 => ae v217) fun b => ac (!b)) fun c => if c then ac (.ret (.bool false), r202) else ac (.next, r202)) (xW d)
noncomputable def wD (d : Nat) : KR := fun r185 => ag (nm2 r185 "laid" "way" fun v203 v204 => aa (az .Lt v204 (.int 2)) fun v205 => aa (fn (d + 8) "_law_due" [v203, v205, (.int 71), (.int 72)]) fun v206 => ac (.next, (ext "due" v206 r185))) (xV d)
noncomputable abbrev xU (d : Nat) : KR := fun r169 => ag (nm2 r169 "scope" "place" fun v187 v188 => aa (aa (bq [nm r169 "is_private" fun v189 => ae v189, nm r169 "way" fun v190 => aa (az .Lt v190 (.int 2)) fun v191 => ae v191]) fun c => if c then nm r169 "entity" fun v192 => aa (am P0.okF v192 "full") fun v193 => aa (am P0.okF v193 "type") fun v194 => ac v194 else nm r169 "told" fun v195 => ac v195) fun v196 => aa (fn (d + 8) "_law_derive" [v187, v188, v196, (.str "d"), (.int 72)]) fun v197 => aa (unN v197 ["made", "brought"] r169) fun r186 => ac (.next, r186)) (wD d)
noncomputable abbrev xT (d : Nat) : KR := fun r147 => ag (aa (aa (nm r147 "way" fun v170 => aa (az .Eq v170 (.int 0)) fun v171 => ae v171) fun c => if c then nm r147 "region" fun v172 => ac v172 else aa (aa (nm r147 "way" fun v173 => aa (az .Lt v173 (.int 4)) fun v174 => ae v174) fun c => if c then aa (aa (nm r147 "way" fun v175 => aa (az .Eq v175 (.int 1)) fun v176 => ae v176) fun c => if c then nm r147 "region" fun v177 => ac v177 else nm r147 "outer" fun v178 => ac v178) fun v179 => aa (fn (d + 8) "open_region" [(.str "block"), .none, v179]) fun v180 => ac v180 else nm r147 "outer" fun v181 => aa (fn (d + 8) "_law_package" [(.str "q"), v181]) fun v182 => ac v182) fun v183 => ac v183) fun v184 => ac (.next, (ext "place" v184 r147))) (xU d)
noncomputable def wG (d : Nat) : KR := fun r138 => ag (aa (aa (nm r138 "way" fun v148 => aa (az .Gt v148 (.int 2)) fun v149 => ae v149) fun c => if c then nm r138 "around" fun v150 => aa (fn (d + 8) "open_region" [(.str "sub"), .none, v150]) fun v151 => ac v151 else nm r138 "around" fun v152 => ac v152) fun v153 => ac (.next, (ext "outer" v153 r138))) (xT d)
noncomputable abbrev xS (d : Nat) : KR := fun r123 => ag (nm r123 "pen" fun v139 => aa (fn (d + 8) "_law_draw" [v139, (.int 5)]) fun v140 => ac (.next, (ext "way" v140 r123))) (wG d)
noncomputable abbrev xR (d : Nat) : KR := fun r110 => ag (nm r110 "pen" fun v128 => aa (fn (d + 8) "_law_draw" [v128, (.int 3)]) fun v129 => pe v129 fun s127 => ba s127.1 (ya d) s127.2 0 r110) (xS d)
noncomputable abbrev xQ (d : Nat) : KR := fun r107 => ag (aa (nm r107 "is_private" fun v111 => ae v111) fun c => if c then ag (aa (fn (d + 8) "int_type" [(.str "t"), (.int (-8)), (.int 7)]) fun v114 => aa (fn (d + 8) "numbered" [v114, (.int 71)]) fun v115 => aa (fn (d + 8) "range_subtype" [v115, (.int 0), (.int 5)]) fun v116 => aa (nm r107 "entity" fun v117 => aa (ar P0.okF v117 "full" v116) fun _ => ac r107) fun r113 => ac (.next, r113)) (fun r112 => ag (nm r112 "entity" fun v120 => aa (am P0.okF v120 "full") fun v121 => aa (nm r112 "told" fun v122 => aa (ar P0.okF v122 "designated" v121) fun _ => ac r112) fun r119 => ac (.next, r119)) fun r118 => ac (.next, r118)) else ac (.next, r107)) (xR d)
noncomputable abbrev xP (d : Nat) : KR := fun r93 => ag (nm r93 "region" fun v108 => aa (fn (d + 8) "begin_private" [v108]) fun v109 => ac (.next, r93)) (xQ d)
noncomputable def wI (d : Nat) : KR := fun r85 => ag (nm r85 "pen" fun v98 => aa (fn (d + 8) "_law_draw" [v98, (.int 4)]) fun v99 => aa (dz .Add (.int 1) v99) fun v100 => pe v100 fun s97 => ba s97.1 (yb d) s97.2 0 r85) (xP d)
noncomputable abbrev xO (d : Nat) : KR := fun r76 => ag (nm r76 "entity" fun v87 => aa (am P0.okF v87 "subtype") fun v88 => nm r76 "n" fun v89 => aa (fn (d + 8) "range_subtype" [v89, (.int 1), (.int 4)]) fun v90 => aa (newL [v88, v90]) fun v91 => aa (newL []) fun v92 => aa (unN (.tup [v91, v92]) ["subtypes", "laid"] r76) fun r86 => ac (.next, r86)) (wI d)
noncomputable abbrev xN (d : Nat) : KR := fun r62 => ag (nm r62 "region" fun v77 => aa (aa (nm r62 "is_private" fun v78 => ae v78) fun c => if c then nm r62 "told" fun v79 => aa (fn (d + 8) "whole_subtype" [v79]) fun v80 => ac v80 else nm r62 "told" fun v81 => aa (fn (d + 8) "range_subtype" [v81, (.int 0), (.int 5)]) fun v82 => ac v82) fun v83 => aa (fn (d + 8) "_law_tell" [v77, (.str "t"), v83]) fun v84 => ac (.next, (ext "entity" v84 r62))) (xO d)
noncomputable abbrev xM (d : Nat) : KR := fun r53 => ag (aa (aa (nm r53 "is_private" fun v63 => ae v63) fun c => if c then aa (fn (d + 8) "Type" [(.str "private"), (.str "t")]) fun v64 => ac v64 else aa (fn (d + 8) "int_type" [(.str "t"), (.int (-8)), (.int 7)]) fun v65 => ac v65) fun v66 => aa (fn (d + 8) "numbered" [v66, (.int 71)]) fun v67 => ac (.next, (ext "told" v67 r53))) (xN d)
noncomputable abbrev xL (d : Nat) : KR := fun r47 => ag (nm r47 "pen" fun v54 => aa (fn (d + 8) "_law_draw" [v54, (.int 2)]) fun v55 => aa (az .Eq v55 (.int 1)) fun v56 => ac (.next, (ext "is_private" v56 r47))) (xM d)
noncomputable abbrev xK (d : Nat) : KR := fun r37 => ag (nm r37 "around" fun v48 => aa (fn (d + 8) "_law_package" [(.str "p"), v48]) fun v49 => ac (.next, (ext "region" v49 r37))) (xL d)
noncomputable abbrev xJ (d : Nat) : KR := fun r24 => ag (aa (aa (nm r24 "pen" fun v38 => aa (fn (d + 8) "_law_draw" [v38, (.int 2)]) fun v39 => aa (az .Eq v39 (.int 1)) fun v40 => ae v40) fun c => if c then nm r24 "root" fun v41 => aa (fn (d + 8) "open_region" [(.str "sub"), .none, v41]) fun v42 => ac v42 else nm r24 "root" fun v43 => ac v43) fun v44 => ac (.next, (ext "around" v44 r24))) (xK d)
noncomputable abbrev xI (d : Nat) : KR := fun r14 => ag (nm r14 "root" fun v25 => aa (fn (d + 8) "Limits" []) fun v26 => nm r14 "n" fun v27 => aa (fn (d + 8) "whole_subtype" [v27]) fun v28 => aa (fn (d + 8) "Scope" [v25, v26, .none, .junk]) fun v29 => ac (.next, (ext "scope" v29 r14))) (xJ d)
noncomputable abbrev xH (d : Nat) : KR := fun r11 => ag (nm2 r11 "root" "n" fun v15 v16 => aa (fn (d + 8) "range_subtype" [v16, (.int 1), (.int 4)]) fun v17 => aa (fn (d + 8) "_law_tell" [v15, (.str "n"), v17]) fun v18 => ac (.next, r11)) (xI d)
noncomputable abbrev xG (d : Nat) : KR := fun r7 => ag (aa (fn (d + 8) "int_type" [(.str "n"), (.int (-8)), (.int 7)]) fun v12 => aa (fn (d + 8) "numbered" [v12, (.int 61)]) fun v13 => ac (.next, (ext "n" v13 r7))) (xH d)
noncomputable abbrev xF (d : Nat) : KR := fun r3 => ag (aa (fn (d + 8) "open_region" [(.str "root"), .none, .none]) fun v8 => ac (.next, (ext "root" v8 r3))) (xG d)
theorem uK (d : Nat) (script0 : MV) : fn (d + 9) "law" [script0] = bF (ag (aa (lP script0 .none (.int 60)) fun v4 => aa (newL [v4, (.int 0)]) fun v5 => ac (.next, (ext "pen" v5 (ext "script" script0 [])))) (xF d)) := by kernel_rfl
noncomputable def W {α : Type} (m : M α) (H : MH) (Q : α -> MH -> Prop) : Prop := ∃ a H', m H = some (a, H') /\ Q a H'
section
variable {α β R : Type} {H : MH}
theorem aI {m : M α} {Q Q' : α -> MH -> Prop} (h : W m H Q) (k : ∀ a H', Q a H' -> Q' a H') : W m H Q' := by
 obtain ⟨a, H', e, q⟩ := h
 exact ⟨a, H', e, k a H' q⟩
theorem bZ {a : α} {Q : α -> MH -> Prop} (h : Q a H) : W (ac a) H Q := ⟨a, H, rfl, h⟩
noncomputable abbrev ww (f : α -> M β) (Q : β -> MH -> Prop) : α -> MH -> Prop := fun a H' => W (f a) H' Q
theorem aB {m : M α} {f : α -> M β} {Q : β -> MH -> Prop} (h : W m H (ww f Q)) : W (aa m f) H Q := by
 obtain ⟨a, H', e, b, H'', e', q⟩ := h
 refine ⟨b, H'', ?_, q⟩
 show (match m H with
  | none => none
  | some (a, H') => f a H') = _
 rw [e]; exact e'
theorem pf {m : M α} {Q : α -> MH -> Prop} {a : α} {H' : MH} (e : m H = some (a, H')) (h : Q a H') : W m H Q := ⟨a, H', e, h⟩
theorem qO {ρ : Rho} {x : Str} {v : MV} {k : MV -> M R} {Q : R -> MH -> Prop} (e : ad ρ x = some v) (h : W (k v) H Q) : W (nm ρ x k) H Q := by
 unfold nm; rw [e]; exact h
theorem vK {ρ : Rho} {x y : Str} {v w : MV} {k : MV -> MV -> M R} {Q : R -> MH -> Prop} (e : ad ρ x = some v) (e' : ad ρ y = some w) (h : W (k v w) H Q) : W (nm2 ρ x y k) H Q := qO (k := fun a => nm ρ y fun b => k a b) e (qO e' h)
theorem vJ {ρ : Rho} {x y z : Str} {v w u : MV} {k : MV -> MV -> MV -> M R} {Q : R -> MH -> Prop} (e : ad ρ x = some v) (e' : ad ρ y = some w) (e2 : ad ρ z = some u) (h : W (k v w u) H Q) : W (nm3 ρ x y z k) H Q := qO (k := fun a => nm2 ρ y z (k a)) e (vK e' e2 h)
theorem xl {ρ : Rho} {x y z s : Str} {v w u r : MV} {k : MV -> MV -> MV -> MV -> M R} {Q : R -> MH -> Prop} (e : ad ρ x = some v) (e' : ad ρ y = some w) (e2 : ad ρ z = some u) (e3 : ad ρ s = some r) (h : W (k v w u r) H Q) : W (nm4 ρ x y z s k) H Q := qO (k := fun a => nm3 ρ y z s (k a)) e (vJ e' e2 e3 h)
theorem xj {ρ : Rho} {x : Str} {v : MV} {k : MV -> M R} {Q : R -> MH -> Prop} (e : ad ρ x = some v) (h : W (k v) H Q) : W (nmA (some .local) ρ x k) H Q := by
 unfold nmA; rw [e]; exact h
theorem xk {ρ : Rho} {x : Str} {v : MV} {k : MV -> M R} {Q : R -> MH -> Prop} (e : ad ρ x = some v) (h : W (k v) H Q) : W (nmA (some .cell) ρ x k) H Q := by
 unfold nmA; rw [e]; exact h
theorem xu {ρ : Rho} {m : M R} {Q : R -> MH -> Prop} (e : ad ρ cz = none) (h : W m H Q) : W (aW ρ m) H Q := by
 unfold aW; rw [e]; exact h
theorem vG {c : Bool} {a b : M R} {Q : R -> MH -> Prop} (e : c = true) (h : W a H Q) : W (if c then a else b) H Q := by rw [if_pos e]; exact h
theorem oF {c : Bool} {a b : M R} {Q : R -> MH -> Prop} (e : c = false) (h : W b H Q) : W (if c then a else b) H Q := by rw [if_neg (by rw [e]; decide)]; exact h
theorem dW {c : Bool} {a b : M R} {Q : R -> MH -> Prop} (h1 : c = true -> W a H Q) (h2 : c = false -> W b H Q) : W (if c then a else b) H Q := by
 cases c
 ·exact oF rfl (h2 rfl)
 ·exact vG rfl (h1 rfl)
noncomputable def wV (k : Rho -> M (Fl × Rho)) (Q : Fl × Rho -> MH -> Prop) : Fl × Rho -> MH -> Prop := fun x H' => match x with
 | (.next, ρ) => W (k ρ) H' Q
 | (f, ρ) => Q (f, ρ) H'
noncomputable def q7 (Q : MV -> MH -> Prop) : Fl × Rho -> MH -> Prop := fun x H' => match x with
 | (.next, _) => Q .none H'
 | (.ret v, _) => Q v H'
 | (.cont, _) => False
theorem dU {m : M (Fl × Rho)} {k : Rho -> M (Fl × Rho)} {Q : Fl × Rho -> MH -> Prop} (h : W m H (wV k Q)) : W (ag m k) H Q := by
 refine aB (aI h ?_)
 rintro ⟨f, ρ⟩ H' q
 cases f
 ·exact q
 ·exact ⟨_, _, rfl, q⟩
 ·exact ⟨_, _, rfl, q⟩
theorem wb {m : M (Fl × Rho)} {Q : MV -> MH -> Prop} (h : W m H (q7 Q)) : W (bF m) H Q := by
 refine aB (aI h ?_)
 rintro ⟨f, ρ⟩ H' q
 cases f
 ·exact ⟨_, _, rfl, q⟩
 ·exact q.elim
 ·exact ⟨_, _, rfl, q⟩
theorem bp {k : Rho -> M (Fl × Rho)} {Q : Fl × Rho -> MH -> Prop} {ρ : Rho} (h : W (k ρ) H Q) : wV k Q (.next, ρ) H := h
theorem uh {k : Rho -> M (Fl × Rho)} {Q : Fl × Rho -> MH -> Prop} {ρ : Rho} {v : MV} (h : Q (.ret v, ρ) H) : wV k Q (.ret v, ρ) H := h
theorem qW {k : Rho -> M (Fl × Rho)} {Q : Fl × Rho -> MH -> Prop} {ρ : Rho} (h : Q (.cont, ρ) H) : wV k Q (.cont, ρ) H := h
theorem um {Q : MV -> MH -> Prop} {ρ : Rho} {v : MV} (h : Q v H) : q7 Q (.ret v, ρ) H := h
theorem q5 {Q : MV -> MH -> Prop} {ρ : Rho} (h : Q .none H) : q7 Q (.next, ρ) H := h
theorem jO {b : Bool} {Q : Bool -> MH -> Prop} (h : Q b H) : W (ae (.bool b)) H Q := ⟨_, _, rfl, h⟩
noncomputable def OrQ (k : M MV) (Q : MV -> MH -> Prop) : MV -> MH -> Prop := fun v H => ∃ b, v = .bool b /\ (b = false -> W k H Q) /\ (b = true -> Q (.bool true) H)
noncomputable def wZ (k : M MV) (Q : MV -> MH -> Prop) : MV -> MH -> Prop := fun v H => ∃ b, v = .bool b /\ (b = true -> W k H Q) /\ (b = false -> Q (.bool false) H)
noncomputable def wW (k : M Bool) (Q : Bool -> MH -> Prop) : Bool -> MH -> Prop := fun b H => (b = false -> W k H Q) /\ (b = true -> Q true H)
noncomputable def pc (k : M Bool) (Q : Bool -> MH -> Prop) : Bool -> MH -> Prop := fun b H => (b = true -> W k H Q) /\ (b = false -> Q false H)
theorem wh {x : M MV} {Q : MV -> MH -> Prop} (h : W x H Q) : W (mj [x]) H Q := h
theorem xy {x y : M MV} {r : List (M MV)} {Q : MV -> MH -> Prop} (h : W x H (wZ (mj (y :: r)) Q)) : W (mj (x :: y :: r)) H Q := by
 refine aB (aI h ?_)
 rintro v H' ⟨b, rfl, h1, h2⟩
 refine aB (jO ?_)
 exact dW h1 fun e => by subst e; exact bZ (h2 rfl)
theorem xi {x : M MV} {Q : MV -> MH -> Prop} (h : W x H Q) : W (orM [x]) H Q := h
theorem yO {x y : M MV} {r : List (M MV)} {Q : MV -> MH -> Prop} (h : W x H (OrQ (orM (y :: r)) Q)) : W (orM (x :: y :: r)) H Q := by
 refine aB (aI h ?_)
 rintro v H' ⟨b, rfl, h1, h2⟩
 refine aB (jO ?_)
 exact dW (fun e => by subst e; exact bZ (h2 rfl)) h1
theorem uc {Q : Bool -> MH -> Prop} (h : Q true H) : W (bq []) H Q := ⟨_, _, rfl, h⟩
theorem wg {x : M Bool} {r : List (M Bool)} {Q : Bool -> MH -> Prop} (h : W x H (pc (bq r) Q)) : W (bq (x :: r)) H Q := by
 refine aB (aI h ?_)
 rintro b H' ⟨h1, h2⟩
 exact dW h1 fun e => bZ (h2 e)
theorem vH {Q : Bool -> MH -> Prop} (h : Q false H) : W (orB []) H Q := ⟨_, _, rfl, h⟩
theorem xh {x : M Bool} {r : List (M Bool)} {Q : Bool -> MH -> Prop} (h : W x H (wW (orB r) Q)) : W (orB (x :: r)) H Q := by
 refine aB (aI h ?_)
 rintro b H' ⟨h1, h2⟩
 exact dW (fun e => bZ (h2 e)) h1
theorem yS {k : M MV} {Q : MV -> MH -> Prop} {b : Bool} (e : b = true) (h : Q (.bool true) H) : OrQ k Q (.bool b) H := ⟨b, rfl, fun e' => absurd (e.symm.trans e') (by decide), fun _ => h⟩
theorem yT {k : M MV} {Q : MV -> MH -> Prop} {b : Bool} (e : b = false) (h : W k H Q) : OrQ k Q (.bool b) H := ⟨b, rfl, fun _ => h, fun e' => absurd (e.symm.trans e') (by decide)⟩
theorem yE {k : M MV} {Q : MV -> MH -> Prop} {b : Bool} (h1 : b = false -> W k H Q) (h2 : b = true -> Q (.bool true) H) : OrQ k Q (.bool b) H := ⟨b, rfl, h1, h2⟩
theorem yr {k : M MV} {Q : MV -> MH -> Prop} {b : Bool} (e : b = true) (h : W k H Q) : wZ k Q (.bool b) H := ⟨b, rfl, fun _ => h, fun e' => absurd (e.symm.trans e') (by decide)⟩
theorem yt {k : M MV} {Q : MV -> MH -> Prop} {b : Bool} (e : b = false) (h : Q (.bool false) H) : wZ k Q (.bool b) H := ⟨b, rfl, fun e' => absurd (e.symm.trans e') (by decide), fun _ => h⟩
theorem wx {k : M MV} {Q : MV -> MH -> Prop} {b : Bool} (h1 : b = true -> W k H Q) (h2 : b = false -> Q (.bool false) H) : wZ k Q (.bool b) H := ⟨b, rfl, h1, h2⟩
theorem xD {k : M Bool} {Q : Bool -> MH -> Prop} {b : Bool} (e : b = true) (h : Q true H) : wW k Q b H := ⟨fun e' => absurd (e.symm.trans e') (by decide), fun _ => h⟩
theorem xE {k : M Bool} {Q : Bool -> MH -> Prop} {b : Bool} (e : b = false) (h : W k H Q) : wW k Q b H := ⟨fun _ => h, fun e' => absurd (e.symm.trans e') (by decide)⟩
theorem mf {k : M Bool} {Q : Bool -> MH -> Prop} {b : Bool} (h1 : b = false -> W k H Q) (h2 : b = true -> Q true H) : wW k Q b H := ⟨h1, h2⟩
theorem wy {k : M Bool} {Q : Bool -> MH -> Prop} {b : Bool} (e : b = true) (h : W k H Q) : pc k Q b H := ⟨fun _ => h, fun e' => absurd (e.symm.trans e') (by decide)⟩
theorem rY {k : M Bool} {Q : Bool -> MH -> Prop} {b : Bool} (e : b = false) (h : Q false H) : pc k Q b H := ⟨fun e' => absurd (e.symm.trans e') (by decide), fun _ => h⟩
theorem gM {k : M Bool} {Q : Bool -> MH -> Prop} {b : Bool} (h1 : b = true -> W k H Q) (h2 : b = false -> Q false H) : pc k Q b H := ⟨h1, h2⟩
noncomputable def Src.Is (src : Src) (H : MH) (xs : List MV) : Prop := ∀ j, src.at_ H j = some xs[j]?
noncomputable def uy (P : Rho -> MH -> Prop) (Q : Fl × Rho -> MH -> Prop) : Fl × Rho -> MH -> Prop := fun x H' => match x with
 | (.ret v, ρ) => Q (.ret v, ρ) H'
 | (_, ρ) => P ρ H'
theorem qY {P : Rho -> MH -> Prop} {Q : Fl × Rho -> MH -> Prop} {ρ : Rho} (h : P ρ H) : uy P Q (.next, ρ) H := h
theorem qZ {P : Rho -> MH -> Prop} {Q : Fl × Rho -> MH -> Prop} {ρ : Rho} (h : P ρ H) : uy P Q (.cont, ρ) H := h
theorem ul {P : Rho -> MH -> Prop} {Q : Fl × Rho -> MH -> Prop} {ρ : Rho} {v : MV} (h : Q (.ret v, ρ) H) : uy P Q (.ret v, ρ) H := h
theorem kI {src : Src} {body : MV -> Rho -> M (Fl × Rho)} {n j : Nat} {ρ : Rho} (h : src.at_ H j = some none) : ba src body (n + 1) j ρ H = some ((Fl.next, ρ), H) := by
 have z : ∀ o : Option (Option MV), o = some none -> (match o with
   | none => (none : Option ((Fl × Rho) × MH))
   | some none => some ((Fl.next, ρ), H)
   | some (some v) => aa (body v ρ) (fun r => match r.1 with
    | .ret x => ac (Fl.ret x, r.2)
    | _ => ba src body n (j + 1) r.2) H) = some ((Fl.next, ρ), H) := by rintro _ rfl; rfl
 exact z _ h
theorem nO {src : Src} {body : MV -> Rho -> M (Fl × Rho)} {n j : Nat} {ρ : Rho} {v : MV} (h : src.at_ H j = some (some v)) : ba src body (n + 1) j ρ H = aa (body v ρ) (fun r => match r.1 with
    | .ret x => ac (Fl.ret x, r.2)
    | _ => ba src body n (j + 1) r.2) H := by
 have z : ∀ o : Option (Option MV), o = some (some v) -> (match o with
   | none => (none : Option ((Fl × Rho) × MH))
   | some none => some ((Fl.next, ρ), H)
   | some (some v) => aa (body v ρ) (fun r => match r.1 with
    | .ret x => ac (Fl.ret x, r.2)
    | _ => ba src body n (j + 1) r.2) H) = aa (body v ρ) (fun r => match r.1 with
    | .ret x => ac (Fl.ret x, r.2)
    | _ => ba src body n (j + 1) r.2) H := by rintro _ rfl; rfl
 exact z _ h
theorem qT {src : Src} {body : MV -> Rho -> M (Fl × Rho)} (xs : List MV) (P : Nat -> Rho -> MH -> Prop) {Q : Fl × Rho -> MH -> Prop}
  (hs : ∀ j ρ H, P j ρ H -> src.Is H xs)
  (step : ∀ j v ρ H, xs[j]? = some v -> P j ρ H -> W (body v ρ) H (uy (P (j + 1)) Q))
  (done : ∀ ρ H, P xs.length ρ H -> Q (.next, ρ) H) : ∀ (n j : Nat) (ρ : Rho) (H : MH), n + j = xs.length -> P j ρ H -> W (ba src body (n + 1) j ρ) H Q := by
 intro n
 induction n with
 | zero =>
  intro j ρ H e p
  have hat := hs j ρ H p j
  rw [List.getElem?_eq_none (by exact aK _ _ 0 0 .x (.a (.n 0) .y) .x .y rfl (geE e))] at hat
  obtain rfl : j = xs.length := by exact Nat.le_antisymm (aK _ _ 0 0 (.a (.n 0) .x) .y .x .y rfl (Nat.le_of_eq e)) (aK _ _ 0 0 .x (.a (.n 0) .y) .x .y rfl (geE e))
  exact ⟨_, _, kI hat, done ρ H p⟩
 | succ n ih =>
  intro j ρ H e p
  have hj : j < xs.length := by exact aK _ _ _ 0 (.a (.a .z (.n 1)) .x) .y (.a .x (.n 1)) .y rfl (Nat.le_of_eq e)
  have hv : xs[j]? = some xs[j] := List.getElem?_eq_getElem hj
  have hat := hs j ρ H p j
  rw [hv] at hat
  have w : W (aa (body xs[j] ρ) fun r => match r.1 with
    | .ret x => ac (Fl.ret x, r.2)
    | _ => ba src body (n + 1) (j + 1) r.2) H Q := by
   refine aB (aI (step j _ ρ H hv p) ?_)
   rintro ⟨fl, ρ'⟩ H1 q
   cases fl with
   | next => exact ih (j + 1) ρ' H1 (by exact Nat.le_antisymm (aK _ _ _ 0 (.a (.a .x (.n 1)) .y) .z (.a .x (.a .y (.n 1))) .z rfl (Nat.le_of_eq e)) (aK _ _ _ 0 .x (.a (.a .y (.n 1)) .z) .x (.a .y (.a .z (.n 1))) rfl (geE e))) q
   | cont => exact ih (j + 1) ρ' H1 (by exact Nat.le_antisymm (aK _ _ _ 0 (.a (.a .x (.n 1)) .y) .z (.a .x (.a .y (.n 1))) .z rfl (Nat.le_of_eq e)) (aK _ _ _ 0 .x (.a (.a .y (.n 1)) .z) .x (.a .y (.a .z (.n 1))) rfl (geE e))) q
   | ret v => exact bZ q
  obtain ⟨a, H2, e2, q2⟩ := w
  exact ⟨a, H2, (nO hat).trans e2, q2⟩
theorem gp {src : Src} {body : MV -> Rho -> M (Fl × Rho)} {ρ : Rho} {n : Nat} (xs : List MV) (P : Nat -> Rho -> MH -> Prop) {Q : Fl × Rho -> MH -> Prop} (hn : n = xs.length + 1)
  (p0 : P 0 ρ H) (hs : ∀ j ρ H, P j ρ H -> src.Is H xs)
  (step : ∀ j v ρ H, xs[j]? = some v -> P j ρ H -> W (body v ρ) H (uy (P (j + 1)) Q))
  (done : ∀ ρ H, P xs.length ρ H -> Q (.next, ρ) H) : W (ba src body n 0 ρ) H Q := by
 subst hn
 exact qT xs P hs step done xs.length 0 ρ H rfl p0
theorem qx {src : Src} {stepf : MV -> M (Option MV)} {n j : Nat} (h : src.at_ H j = some none) : aH src stepf (n + 1) j H = some ([], H) := by
 have z : ∀ o : Option (Option MV), o = some none -> (match o with
   | none => (none : Option (List MV × MH))
   | some none => some ([], H)
   | some (some v) => aa (stepf v) (fun r => aa (aH src stepf n (j + 1)) fun ys => match r with
    | some y => ac (y :: ys)
    | none => ac ys) H) = some ([], H) := by rintro _ rfl; rfl
 exact z _ h
theorem nZ {src : Src} {stepf : MV -> M (Option MV)} {n j : Nat} {v : MV} (h : src.at_ H j = some (some v)) : aH src stepf (n + 1) j H = aa (stepf v) (fun r => aa (aH src stepf n (j + 1)) fun ys => match r with
    | some y => ac (y :: ys)
    | none => ac ys) H := by
 have z : ∀ o : Option (Option MV), o = some (some v) -> (match o with
   | none => (none : Option (List MV × MH))
   | some none => some ([], H)
   | some (some v) => aa (stepf v) (fun r => aa (aH src stepf n (j + 1)) fun ys => match r with
    | some y => ac (y :: ys)
    | none => ac ys) H) = aa (stepf v) (fun r => aa (aH src stepf n (j + 1)) fun ys => match r with
    | some y => ac (y :: ys)
    | none => ac ys) H := by rintro _ rfl; rfl
 exact z _ h
theorem oR {src : Src} {stepf : MV -> M (Option MV)} (xs : List MV) (P : Nat -> List MV -> MH -> Prop)
  (hs : ∀ j ys H, P j ys H -> src.Is H xs)
  (step : ∀ j v ys H, xs[j]? = some v -> P j ys H -> W (stepf v) H fun r H' => P (j + 1) (ys ++ r.toList) H') : ∀ (n j : Nat) (ys : List MV) (H : MH), n + j = xs.length -> P j ys H ->
   W (aH src stepf (n + 1) j) H fun zs H' => P xs.length (ys ++ zs) H' := by
 intro n
 induction n with
 | zero =>
  intro j ys H e p
  have hat := hs j ys H p j
  rw [List.getElem?_eq_none (by exact aK _ _ 0 0 .x (.a (.n 0) .y) .x .y rfl (geE e))] at hat
  obtain rfl : j = xs.length := by exact Nat.le_antisymm (aK _ _ 0 0 (.a (.n 0) .x) .y .x .y rfl (Nat.le_of_eq e)) (aK _ _ 0 0 .x (.a (.n 0) .y) .x .y rfl (geE e))
  refine ⟨_, _, qx hat, ?_⟩
  show P xs.length (ys ++ []) H
  rw [List.append_nil]; exact p
 | succ n ih =>
  intro j ys H e p
  have hj : j < xs.length := by exact aK _ _ _ 0 (.a (.a .z (.n 1)) .x) .y (.a .x (.n 1)) .y rfl (Nat.le_of_eq e)
  have hv : xs[j]? = some xs[j] := List.getElem?_eq_getElem hj
  have hat := hs j ys H p j
  rw [hv] at hat
  have w : W (aa (stepf xs[j]) (fun r => aa (aH src stepf (n + 1) (j + 1)) fun ys => match r with
    | some y => ac (y :: ys)
    | none => ac ys)) H fun zs H' => P xs.length (ys ++ zs) H' := by
   refine aB (aI (step j _ ys H hv p) ?_)
   intro r H1 q
   refine aB (aI (ih (j + 1) _ H1 (by exact Nat.le_antisymm (aK _ _ _ 0 (.a (.a .x (.n 1)) .y) .z (.a .x (.a .y (.n 1))) .z rfl (Nat.le_of_eq e)) (aK _ _ _ 0 .x (.a (.a .y (.n 1)) .z) .x (.a .y (.a .z (.n 1))) rfl (geE e))) q) ?_)
   intro zs H2 q2
   cases r with
   | none =>
    refine bZ ?_
    rw [show ys ++ (none : Option MV).toList = ys from List.append_nil ys] at q2
    exact q2
   | some y =>
    refine bZ ?_
    rw [show ys ++ (some y).toList ++ zs = ys ++ y :: zs by simp] at q2
    exact q2
  obtain ⟨a, H2, e2, q2⟩ := w
  exact ⟨a, H2, (nZ hat).trans e2, q2⟩
theorem fR {src : Src} {stepf : MV -> M (Option MV)} {n : Nat} {Q : List MV -> MH -> Prop} (xs : List MV) (P : Nat -> List MV -> MH -> Prop) (hn : n = xs.length + 1) (p0 : P 0 [] H)
  (hs : ∀ j ys H, P j ys H -> src.Is H xs)
  (step : ∀ j v ys H, xs[j]? = some v -> P j ys H -> W (stepf v) H fun r H' => P (j + 1) (ys ++ r.toList) H')
  (done : ∀ ys H, P xs.length ys H -> Q ys H) : W (aH src stepf n 0) H Q := by
 subst hn
 exact aI (oR xs P hs step xs.length 0 [] H rfl p0) fun ys H' p => done ys H' p
theorem xw {src : Src} {stepf : MV -> M (Option MV)} {n : Nat} {Q : List MV -> MH -> Prop} (xs : List MV) (F : MV -> Option MV) (hn : n = xs.length + 1)
  (hs : src.Is H xs) (step : ∀ v, v ∈ xs -> stepf v H = some (F v, H)) (done : Q (xs.filterMap F) H) : W (aH src stepf n 0) H Q := by
 refine fR xs (fun j ys H' => H' = H /\ ys = (xs.take j).filterMap F) hn ⟨rfl, by simp⟩ (fun j ys H' p => by rw [p.1]; exact hs) (fun j v ys H' hv p => ?_) fun ys H' p => ?_
 ·obtain ⟨rfl, rfl⟩ := p
  refine ⟨_, _, step v (List.mem_of_getElem? hv), rfl, ?_⟩
  rw [List.take_add_one, hv, List.filterMap_append]
  cases q : F v <;> simp [q]
 ·obtain ⟨rfl, rfl⟩ := p
  rw [List.take_length]; exact done
theorem hW {test : Rho -> M Bool} {body : Rho -> M (Fl × Rho)} {Q : Fl × Rho -> MH -> Prop} (P : Nat -> Rho -> MH -> Prop)
  (step : ∀ n ρ H, P n ρ H -> W (test ρ) H fun b H' => (b = true -> ∃ n', n = n' + 1 /\ W (body ρ) H' (uy (P n') Q)) /\ (b = false -> Q (.next, ρ) H')) : ∀ (n m : Nat) (ρ : Rho) (H : MH), P n ρ H -> n < m -> W (dG test body m ρ) H Q := by
 intro n m
 induction m generalizing n with
 | zero => exact fun ρ H _ h => absurd h (Nat.not_lt_zero _)
 | succ m ih =>
  intro ρ H p h
  refine aB (aI (step n ρ H p) ?_)
  rintro b H1 ⟨h1, h2⟩
  refine dW (fun e => ?_) fun e => bZ (h2 e)
  obtain ⟨n', rfl, hb⟩ := h1 e
  refine aB (aI hb ?_)
  rintro ⟨fl, ρ'⟩ H2 q
  cases fl with
  | next => exact ih n' ρ' H2 q (by exact aK _ _ 0 0 (.a (.a .x (.n 1)) (.n 1)) (.a .y (.n 1)) (.a .x (.n 1)) .y rfl h)
  | cont => exact ih n' ρ' H2 q (by exact aK _ _ 0 0 (.a (.a .x (.n 1)) (.n 1)) (.a .y (.n 1)) (.a .x (.n 1)) .y rfl h)
  | ret v => exact bZ q
end
set_option genInjectivity false
set_option genSizeOf false
structure Er where
 kind : Str
 name : Str
 key : Option (List Int × Int)
 subtype : MV
 data : MV
 line : MV
 number : Int
 unique : Str
 home : Option Nat
 part : Str
 region : MV
 full : MV
 ready : Bool
 complete : Bool
 constant : Bool
 implicit : Bool
 overridden : Bool
noncomputable abbrev Er.wN (r : Er) (n : Int) : Er := { r with number := n }
noncomputable abbrev Er.wH (r : Er) (k : Nat) : Er := { r with home := some k }
noncomputable abbrev Er.wP (r : Er) (s : Str) : Er := { r with part := s }
noncomputable abbrev Er.wU (r : Er) (s : Str) : Er := { r with unique := s }
noncomputable abbrev Er.wO (r : Er) (b : Bool) : Er := { r with overridden := b }
noncomputable abbrev Er.wF (r : Er) (v : MV) : Er := { r with full := v }
noncomputable abbrev Er.wR (r : Er) (v : MV) : Er := { r with region := v }
noncomputable abbrev Er.wY (r : Er) (b : Bool) : Er := { r with ready := b }
noncomputable def er0 : Er := ⟨"", "", none, .none, .none, .none, 0, "", none, "", .none, .none, false, false, false, false, false⟩
noncomputable def qe : Option (List Int × Int) -> MV
 | none => .none
 | some (ns, a) => .tup [.tup (ns.map .int), .int a]
noncomputable def ut : Option Nat -> MV
 | none => .none
 | some k => .ins 2 k
noncomputable def EF (r : Er) : aY := [("kind", .str r.kind), ("name", .str r.name), ("key", qe r.key), ("subtype", r.subtype), ("data", r.data), ("line", r.line), ("number", .int r.number), ("unique", .str r.unique), ("home", ut r.home), ("part", .str r.part), ("region", r.region), ("full", r.full), ("is_ready", .bool r.ready), ("is_complete", .bool r.complete), ("is_constant", .bool r.constant), ("is_implicit", .bool r.implicit), ("is_overridden", .bool r.overridden)]
structure Sr where
 name : Str
 params : MV
 result : MV
 decls : MV
 stmts : MV
 handlers : MV
 control : MV
noncomputable abbrev Sr.wPs (r : Sr) (v : MV) : Sr := { r with params := v }
noncomputable abbrev Sr.wRs (r : Sr) (v : MV) : Sr := { r with result := v }
noncomputable def SF (r : Sr) : aY := [("name", .str r.name), ("params", r.params), ("result", r.result), ("decls", r.decls), ("stmts", r.stmts), ("handlers", r.handlers), ("ups", .int 0), ("operation", .str ""), ("control", r.control), ("about", .none), ("told", .none)]
structure Tr where
 kind : MV
 name : MV
 number : Int
 parent : MV
 low : MV
 high : MV
 literals : MV
 modulus : MV
 small : MV
 index : MV
 component : MV
 constrained : MV
 discriminants : MV
 components : MV
 variant : MV
 designated : MV
 tagged : Bool
 wide : MV
 limited : MV
 priv : MV
 abstract : MV
 constant : MV
 late : MV
 operations : MV
noncomputable abbrev Tr.wNum (r : Tr) (n : Int) : Tr := { r with number := n }
noncomputable abbrev Tr.wDes (r : Tr) (v : MV) : Tr := { r with designated := v }
noncomputable def TF (r : Tr) : aY := [("kind", r.kind), ("name", r.name), ("number", .int r.number), ("parent", r.parent), ("low", r.low), ("high", r.high), ("literals", r.literals), ("modulus", r.modulus), ("small", r.small), ("index", r.index), ("component", r.component), ("is_constrained", r.constrained), ("discriminants", r.discriminants), ("components", r.components), ("variant", r.variant), ("designated", r.designated), ("is_tagged", .bool r.tagged), ("wide", r.wide), ("is_limited", r.limited), ("is_private", r.priv), ("is_abstract", r.abstract), ("is_constant", r.constant), ("is_late", r.late), ("operations", r.operations)]
noncomputable def StF (t : Nat) (c : MV) : aY := [("type", .ins 3 t), ("constraint", c)]
structure Scr where
 place : Nat
 limits : MV
 types : MV
 builders : MV
 ways : MV
 decls : MV
 stmts : MV
noncomputable abbrev Scr.wPl (r : Scr) (k : Nat) : Scr := { r with place := k }
noncomputable def ScF (r : Scr) : aY := [("place", .ins 2 r.place), ("limits", r.limits), ("choose", .none), ("types", r.types), ("typed", .none), ("static", .none), ("builders", r.builders), ("ways", r.ways), ("declarations", r.decls), ("statements", r.stmts), ("line", .int 1), ("count", .int 100), ("under_way", .int 0)]
structure Rg where
 kind : Str
 owner : MV
 parent : Option Nat
 number : Int
 level : Int
 part : Str
 es : List (Str × Nat)
 ord : List Nat
 homes : List (Int × Nat × Str)
structure Rp where
 made : Nat
 kn : Nat
 ko : Nat
 ku : Nat
 kt : Nat
 kc : Nat
 kh : Nat
 nls : List (Str × Nat)
 cnt : List (Str × Nat)
noncomputable abbrev Rg.wHom (r : Rg) (n : Int) (p : Nat × Str) : Rg := { r with homes := r.homes ++ [(n, p)] }
noncomputable def RF (root : Nat) (r : Rg) (p : Rp) : aY := [("kind", .str r.kind), ("owner", r.owner), ("parent", ut r.parent), ("root", .ins 2 root), ("made", .int p.made), ("number", .int r.number), ("level", .int r.level), ("part", .str r.part), ("names", .dct p.kn), ("order", .lst p.ko), ("uses", .lst p.ku), ("use_types", .lst p.kt), ("counts", .dct p.kc), ("type_homes", .dct p.kh), ("generic", .none)]
noncomputable def nmD (l : List (Str × Nat)) : MD := .s (l.map fun p => (p.1, .lst p.2))
noncomputable def yx (l : List (Str × Nat)) : MD := .s (l.map fun p => (p.1, .int p.2))
noncomputable def wM : List (Int × Nat × Str) -> MD
 | [] => .s []
 | l => .i (l.map fun p => (p.1, .tup [.ins 2 p.2.1, .str p.2.2]))
noncomputable def bn (l : List Nat) : List MV := l.map (.ins 1)
noncomputable def sel (x : Str) (es : List (Str × Nat)) : List Nat := es.filterMap fun p => if p.1 = x then some p.2 else none
inductive Tag where
 | names (r : Nat)
 | ord (r : Nat)
 | emp (r : Nat)
 | counts (r : Nat)
 | homes (r : Nat)
 | nl (r : Nat) (x : Str)
 | misc
structure G where
 ent : Nat -> Option Er
 reg : Nat -> Option Rg
 ins : Nat -> Nat -> Option aY
 lst : Nat -> Option (List MV)
 dct : Nat -> Option MD
 root : Nat
 used : Nat
noncomputable abbrev G.wL (g : G) (l : Nat -> Option (List MV)) : G := { g with lst := l }
noncomputable abbrev G.wE (g : G) (e : Nat -> Option Er) : G := { g with ent := e }
structure Hid where
 tag : Nat -> Option Tag
 prv : Nat -> Rp
 made : Nat
noncomputable def F0 : List Str := (["name", "params", "result", "decls", "stmts", "handlers", "ups", "operation", "control", "about", "told", "kind", "key", "subtype", "data", "line", "number", "unique", "home", "part"] : List Str) ++ ((["region", "full", "is_ready", "is_complete", "is_constant", "is_implicit", "is_overridden", "owner", "parent", "root", "made", "level", "names", "order", "uses", "use_types", "counts", "type_homes", "generic", "low"] : List Str) ++ ((["high", "literals", "modulus", "small", "index", "component", "is_constrained", "discriminants", "components", "variant", "designated", "is_tagged", "wide", "is_limited", "is_private", "is_abstract", "is_late", "operations", "type", "constraint"] : List Str) ++ ((["place", "limits", "choose", "types", "typed", "static", "builders", "ways", "declarations", "statements", "count", "under_way", "width", "steps", "depth", "members", "text", "tasks", "heap"] : List Str))))
theorem okP : P0.okF = fun c n => decide (c < 7) && F0.contains n := by kernel_rfl
noncomputable def okN (c : Nat) (n : Str) : Bool := decide (c < 7) && F0.contains n
theorem iA {c : Nat} {n : Str} (h : okN c n = true) : P0.okF c n = true := by rw [okP]; exact h
noncomputable def NMs : List Str := ["n", "p", "t", "f", "g", "h", "q", "d", "e"]
noncomputable def EKs : List Str := ["type", "package", "sub"]
noncomputable def PTs : List Str := ["", "visible", "private", "body"]
noncomputable def RKs : List Str := ["root", "sub", "package", "block"]
structure EOk (r : Er) : Prop where
 kind : r.kind ∈ EKs
 name : r.name ∈ NMs
 part : r.part ∈ PTs
 uniq : PyData.strOk r.unique = true
structure wp (tag : Nat -> Option Tag) (H : MH) (k : Nat) (r : Rg) (p : Rp) : Prop where
 tn : tag p.kn = some (.names k)
 dn : H.dct p.kn = some (nmD p.nls)
 to : tag p.ko = some (.ord k)
 lo : H.lst p.ko = some (bn r.ord)
 tu : tag p.ku = some (.emp k)
 lu : H.lst p.ku = some []
 tt : tag p.kt = some (.emp k)
 lt : H.lst p.kt = some []
 tc : tag p.kc = some (.counts k)
 dc : H.dct p.kc = some (yx p.cnt)
 th : tag p.kh = some (.homes k)
 dh : H.dct p.kh = some (wM r.homes)
 nl : ∀ x kx, ad p.nls x = some kx -> tag kx = some (.nl k x) /\ H.lst kx = some (bn (sel x r.es))
 no : ∀ x, ad p.nls x = none -> sel x r.es = []
structure ROk (g : G) (md k : Nat) (r : Rg) (p : Rp) : Prop where
 kind : r.kind ∈ RKs
 part : r.part ∈ PTs
 made : p.made = if k = g.root then md else 0
 es : ∀ p ∈ r.es, ∃ e, g.ent p.2 = some e /\ e.name = p.1
 ord : ∀ e ∈ r.ord, ∃ x, (x, e) ∈ r.es
 esL : r.es.length <= g.used
 ordL : r.ord.length <= g.used
 nlsL : p.nls.length <= g.used
 cntL : p.cnt.length <= g.used
 cnts : ∀ x ∈ p.cnt, x.2 <= g.used
 homL : r.homes.length <= g.used
 num1 : 1 <= r.number
 num2 : r.number <= md
 lev1 : 0 <= r.level
 lev2 : r.level <= g.used
noncomputable def eN (c : Nat) (fs : aY) : Prop := fs.length <= 100 /\ ∀ n v, ad fs n = some v -> P0.okF c n = true
structure bg (g : G) (H : MH) (t : Hid) : Prop where
 ent : ∀ k r, g.ent k = some r -> k < H.next /\ H.ins 1 k = some (EF r) /\ EOk r
 ins : ∀ c k fs, g.ins c k = some fs -> k < H.next /\ c ≠ 1 /\ c ≠ 2 /\ H.ins c k = some fs /\ eN c fs
 lst : ∀ k xs, g.lst k = some xs -> t.tag k = some .misc /\ H.lst k = some xs
 dct : ∀ k d, g.dct k = some d -> t.tag k = some .misc /\ H.dct k = some d
 reg : ∀ k r, g.reg k = some r -> k < H.next /\ H.ins 2 k = some (RF g.root r (t.prv k)) /\ wp t.tag H k r (t.prv k) /\ ROk g t.made k r (t.prv k)
 tag : ∀ k x, t.tag k = some x -> k < H.next
 used : g.used <= 1000
 made : t.made <= g.used
noncomputable def Rep (g : G) (H : MH) : Prop := ∃ t, bg g H t
noncomputable def Tag.of : Tag -> Option Nat
 | .names r => some r
 | .ord r => some r
 | .emp r => some r
 | .counts r => some r
 | .homes r => some r
 | .nl r _ => some r
 | .misc => none
theorem wp.congr {tag tag' : Nat -> Option Tag} {H H' : MH} {k : Nat} {r : Rg} {p : Rp} (L : wp tag H k r p) (h : ∀ a t, tag a = some t -> t.of = some k -> tag' a = tag a /\ H'.lst a = H.lst a /\ H'.dct a = H.dct a) : wp tag' H' k r p where
 tn := (h _ _ L.tn rfl).1.trans L.tn
 dn := (h _ _ L.tn rfl).2.2.trans L.dn
 to := (h _ _ L.to rfl).1.trans L.to
 lo := (h _ _ L.to rfl).2.1.trans L.lo
 tu := (h _ _ L.tu rfl).1.trans L.tu
 lu := (h _ _ L.tu rfl).2.1.trans L.lu
 tt := (h _ _ L.tt rfl).1.trans L.tt
 lt := (h _ _ L.tt rfl).2.1.trans L.lt
 tc := (h _ _ L.tc rfl).1.trans L.tc
 dc := (h _ _ L.tc rfl).2.2.trans L.dc
 th := (h _ _ L.th rfl).1.trans L.th
 dh := (h _ _ L.th rfl).2.2.trans L.dh
 nl x kx e := by
  obtain ⟨a, b⟩ := L.nl x kx e
  exact ⟨(h _ _ a rfl).1.trans a, (h _ _ a rfl).2.1.trans b⟩
 no := L.no
noncomputable def upd {α : Type} (f : Nat -> Option α) (k : Nat) (v : α) : Nat -> Option α := fun j => if j = k then some v else f j
theorem ah {α : Type} {f : Nat -> Option α} {k : Nat} {v : α} : upd f k v k = some v := if_pos rfl
theorem af {α : Type} {f : Nat -> Option α} {k j : Nat} {v : α} (h : j ≠ k) : upd f k v j = f j := if_neg h
theorem aS {α : Type} {f : Nat -> Option α} {k j : Nat} {v w : α} (h : upd f k v j = some w) : (j = k /\ w = v) \/ (j ≠ k /\ f j = some w) := by
 by_cases e : j = k
 ·subst e; rw [ah] at h; obtain rfl := Option.some.inj h; exact .inl ⟨rfl, rfl⟩
 ·rw [af e] at h; exact .inr ⟨e, h⟩
theorem df {α : Type} {f : Nat -> Option α} {k : Nat} {v w : α} : upd (upd f k v) k w = upd f k w := by
 funext j
 by_cases e : j = k
 ·subst e; rw [ah, ah]
 ·rw [af e, af e, af e]
noncomputable def G.setE (g : G) (k : Nat) (r : Er) : G := { g with ent := upd g.ent k r }
noncomputable def G.setR (g : G) (k : Nat) (r : Rg) : G := { g with reg := upd g.reg k r }
noncomputable def G.setI (g : G) (c k : Nat) (fs : aY) : G := { g with ins := fun c' => if c' = c then upd (g.ins c) k fs else g.ins c' }
noncomputable def G.setL (g : G) (k : Nat) (xs : List MV) : G := { g with lst := upd g.lst k xs }
noncomputable def G.setD (g : G) (k : Nat) (d : MD) : G := { g with dct := upd g.dct k d }
noncomputable def G.setU (g : G) (used : Nat) : G := { g with used := used }
noncomputable def Hid.setT (t : Hid) (k : Nat) (x : Tag) : Hid := { t with tag := upd t.tag k x }
noncomputable def Hid.setP (t : Hid) (k : Nat) (p : Rp) : Hid := { t with prv := fun j => if j = k then p else t.prv j }
noncomputable def Hid.setM (t : Hid) (m : Nat) : Hid := { t with made := m }
theorem dm {t : Hid} {k : Nat} {p : Rp} : (t.setP k p).prv k = p := if_pos rfl
theorem mT {t : Hid} {k j : Nat} {p : Rp} (h : j ≠ k) : (t.setP k p).prv j = t.prv j := if_neg h
theorem aX {g : G} {k : Nat} {r r' : Er} : (g.setE k r).setE k r' = g.setE k r' := by unfold G.setE; simp only [df]
theorem aO {g : G} {c k : Nat} {fs : aY} : (g.setI c k fs).ins c k = some fs := by
 show (if c = c then upd (g.ins c) k fs else g.ins c) k = _
 rw [if_pos rfl, ah]
theorem gy {g : G} {c k c' k' : Nat} {fs fs' : aY} (h : (g.setI c k fs).ins c' k' = some fs') : (c' = c /\ k' = k /\ fs' = fs) \/ (¬ (c' = c /\ k' = k) /\ g.ins c' k' = some fs') := by
 have h : (if c' = c then upd (g.ins c) k fs else g.ins c') k' = some fs' := h
 by_cases e : c' = c
 ·subst e
  rw [if_pos rfl] at h
  rcases aS h with ⟨a, b⟩ | ⟨a, b⟩
  ·exact .inl ⟨rfl, a, b⟩
  ·exact .inr ⟨fun z => a z.2, b⟩
 ·rw [if_neg e] at h
  exact .inr ⟨fun z => e z.1, h⟩
theorem dp {H : MH} {c k : Nat} {fs : aY} : (H.putI c k fs).ins c k = some fs := if_pos ⟨rfl, rfl⟩
theorem bB {H : MH} {c k c' k' : Nat} {fs : aY} (h : ¬ (c' = c /\ k' = k)) : (H.putI c k fs).ins c' k' = H.ins c' k' := if_neg h
theorem cr {H : MH} {k : Nat} {xs : List MV} : (H.putL k xs).lst k = some xs := if_pos rfl
theorem aD {H : MH} {k j : Nat} {xs : List MV} (h : j ≠ k) : (H.putL k xs).lst j = H.lst j := if_neg h
theorem gW {H : MH} {k : Nat} {xs : MD} : (H.putD k xs).dct k = some xs := if_pos rfl
theorem bP {H : MH} {k j : Nat} {xs : MD} (h : j ≠ k) : (H.putD k xs).dct j = H.dct j := if_neg h
section
variable {g : G} {H : MH} {t : Hid}
theorem bg.setE {k : Nat} {r r' : Er} (R : bg g H t) (h : g.ent k = some r) (hn : r'.name = r.name) (ok : EOk r') : bg (g.setE k r') (H.putI 1 k (EF r')) t where
 ent j e q := by
  rcases aS q with ⟨rfl, rfl⟩ | ⟨a, b⟩
  ·exact ⟨(R.ent _ _ h).1, dp, ok⟩
  ·exact ⟨(R.ent _ _ b).1, (bB fun z => a z.2).trans (R.ent _ _ b).2.1, (R.ent _ _ b).2.2⟩
 ins c j fs q := ⟨(R.ins _ _ _ q).1, (R.ins _ _ _ q).2.1, (R.ins _ _ _ q).2.2.1, (bB fun z => (R.ins _ _ _ q).2.1 z.1).trans (R.ins _ _ _ q).2.2.2.1, (R.ins _ _ _ q).2.2.2.2⟩
 lst := R.lst
 dct := R.dct
 reg j r q := by
  obtain ⟨a, b, c, d⟩ := R.reg j r q
  have des : ∀ p ∈ r.es, ∃ e, (g.setE k r').ent p.2 = some e /\ e.name = p.1 := by
   intro p hp
   obtain ⟨e, e1, e2⟩ := d.es p hp
   by_cases z : p.2 = k
   ·rw [z] at e1 ⊢
    rw [h] at e1; obtain rfl := Option.some.inj e1; exact ⟨r', ah, hn.trans e2⟩
   ·exact ⟨e, (af z).trans e1, e2⟩
  exact ⟨a, (bB fun z => absurd z.1 (by decide)).trans b, c.congr fun _ _ _ _ => ⟨rfl, rfl, rfl⟩, { d with es := des }⟩
 tag := R.tag
 used := R.used
 made := R.made
theorem bg.setI {c k : Nat} {fs fs' : aY} (R : bg g H t) (h : g.ins c k = some fs) (ok : eN c fs') : bg (g.setI c k fs') (H.putI c k fs') t where
 ent j e q := ⟨(R.ent _ _ q).1, (bB fun z => (R.ins _ _ _ h).2.1 z.1.symm).trans (R.ent _ _ q).2.1, (R.ent _ _ q).2.2⟩
 ins c' j fs q := by
  rcases gy q with ⟨rfl, rfl, rfl⟩ | ⟨a, b⟩
  ·exact ⟨(R.ins _ _ _ h).1, (R.ins _ _ _ h).2.1, (R.ins _ _ _ h).2.2.1, dp, ok⟩
  ·obtain ⟨x1, x2, x3, x4, x5⟩ := R.ins _ _ _ b
   exact ⟨x1, x2, x3, (bB a).trans x4, x5⟩
 lst := R.lst
 dct := R.dct
 reg j r q := by
  obtain ⟨a, b, c, d⟩ := R.reg j r q
  exact ⟨a, (bB fun z => (R.ins _ _ _ h).2.2.1 z.1.symm).trans b, c.congr fun _ _ _ _ => ⟨rfl, rfl, rfl⟩, { d with }⟩
 tag := R.tag
 used := R.used
 made := R.made
theorem bg.setL {k : Nat} {xs ys : List MV} (R : bg g H t) (h : g.lst k = some xs) : bg (g.setL k ys) (H.putL k ys) t where
 ent := R.ent
 ins := R.ins
 lst j zs q := by
  rcases aS q with ⟨rfl, rfl⟩ | ⟨a, b⟩
  ·exact ⟨(R.lst _ _ h).1, cr⟩
  ·exact ⟨(R.lst _ _ b).1, (aD a).trans (R.lst _ _ b).2⟩
 dct := R.dct
 reg j r q := by
  obtain ⟨a, b, c, d⟩ := R.reg j r q
  refine ⟨a, b, c.congr fun a x ha ht => ?_, { d with }⟩
  have ne : a ≠ k := fun e => by rw [e, (R.lst _ _ h).1] at ha; cases ha; cases ht
  exact ⟨rfl, aD ne, rfl⟩
 tag := R.tag
 used := R.used
 made := R.made
theorem bg.none_at (R : bg g H t) {k : Nat} (hk : H.next <= k) : g.ent k = none /\ g.reg k = none /\ (∀ c, g.ins c k = none) /\ g.lst k = none /\ g.dct k = none /\ t.tag k = none := by
 refine ⟨?_, ?_, fun c => ?_, ?_, ?_, ?_⟩
 ·cases q : g.ent k with
  | none => rfl
  | some r => exact absurd (R.ent _ _ q).1 (by exact nlt (aK _ _ 0 0 .x .y .x .y rfl hk))
 ·cases q : g.reg k with
  | none => rfl
  | some r => exact absurd (R.reg _ _ q).1 (by exact nlt (aK _ _ 0 0 .x .y .x .y rfl hk))
 ·cases q : g.ins c k with
  | none => rfl
  | some r => exact absurd (R.ins _ _ _ q).1 (by exact nlt (aK _ _ 0 0 .x .y .x .y rfl hk))
 ·cases q : g.lst k with
  | none => rfl
  | some r => exact absurd (R.tag _ _ (R.lst _ _ q).1) (by exact nlt (aK _ _ 0 0 .x .y .x .y rfl hk))
 ·cases q : g.dct k with
  | none => rfl
  | some r => exact absurd (R.tag _ _ (R.dct _ _ q).1) (by exact nlt (aK _ _ 0 0 .x .y .x .y rfl hk))
 ·cases q : t.tag k with
  | none => rfl
  | some r => exact absurd (R.tag _ _ q) (by exact nlt (aK _ _ 0 0 .x .y .x .y rfl hk))
theorem bg.off {H' : MH} (R : bg g H t) (hn : H.next <= H'.next) (hi : ∀ c k, k < H.next -> (c = 1 -> g.ent k ≠ none) -> (c = 2 -> g.reg k ≠ none) -> (c ≠ 1 -> c ≠ 2 -> g.ins c k ≠ none) -> H'.ins c k = H.ins c k) (hl : ∀ k, t.tag k ≠ none -> H'.lst k = H.lst k) (hd : ∀ k, t.tag k ≠ none -> H'.dct k = H.dct k) : bg g H' t where
 ent k r q := ⟨Nat.lt_of_lt_of_le (R.ent _ _ q).1 hn, (hi 1 k (R.ent _ _ q).1 (fun _ => by rw [q]; simp) (fun e => absurd e (by decide)) (fun a => absurd rfl a)).trans (R.ent _ _ q).2.1, (R.ent _ _ q).2.2⟩
 ins c k fs q := by
  obtain ⟨x1, x2, x3, x4, x5⟩ := R.ins _ _ _ q
  exact ⟨Nat.lt_of_lt_of_le x1 hn, x2, x3, (hi c k x1 (fun e => absurd e x2) (fun e => absurd e x3) (fun _ _ => by rw [q]; simp)).trans x4, x5⟩
 lst k xs q := ⟨(R.lst _ _ q).1, (hl k (by rw [(R.lst _ _ q).1]; simp)).trans (R.lst _ _ q).2⟩
 dct k xs q := ⟨(R.dct _ _ q).1, (hd k (by rw [(R.dct _ _ q).1]; simp)).trans (R.dct _ _ q).2⟩
 reg k r q := by
  obtain ⟨a, b, c, d⟩ := R.reg k r q
  exact ⟨Nat.lt_of_lt_of_le a hn, (hi 2 k a (fun e => absurd e (by decide)) (fun _ => by rw [q]; simp) (fun _ a => absurd rfl a)).trans b, c.congr fun a t ha ht => ⟨rfl, hl a (by rw [ha]; simp), hd a (by rw [ha]; simp)⟩, d⟩
 tag k t q := Nat.lt_of_lt_of_le (R.tag _ _ q) hn
 used := R.used
 made := R.made
theorem bg.newL {xs : List MV} (R : bg g H t) : bg (g.setL H.next xs) (H.putL H.next xs).up (t.setT H.next .misc) where
 ent k r q := ⟨Nat.lt_succ_of_lt (R.ent _ _ q).1, (R.ent _ _ q).2⟩
 ins c k fs q := ⟨Nat.lt_succ_of_lt (R.ins _ _ _ q).1, (R.ins _ _ _ q).2⟩
 lst k ys q := by
  rcases aS q with ⟨rfl, rfl⟩ | ⟨a, b⟩
  ·exact ⟨ah, cr⟩
  ·exact ⟨(af a).trans (R.lst _ _ b).1, (aD a).trans (R.lst _ _ b).2⟩
 dct k d q := by
  have ne : k ≠ H.next := fun e => by have := R.tag _ _ (R.dct _ _ q).1; exact nof (bu _ _ 0 0 .x .y (.a .y (.n 1)) .x (.n 1) (.n 0) rfl (geE e) this)
  exact ⟨(af ne).trans (R.dct _ _ q).1, (R.dct _ _ q).2⟩
 reg k r q := by
  obtain ⟨a, b, c, d⟩ := R.reg k r q
  refine ⟨Nat.lt_succ_of_lt a, b, c.congr fun a x ha ht => ?_, { d with }⟩
  have ne : a ≠ H.next := fun e => by have := R.tag _ _ ha; exact nof (bu _ _ 0 0 .x .y (.a .y (.n 1)) .x (.n 1) (.n 0) rfl (geE e) this)
  exact ⟨af ne, aD ne, rfl⟩
 tag k x q := by
  rcases aS q with ⟨rfl, rfl⟩ | ⟨a, b⟩
  ·exact Nat.lt_succ_self _
  ·exact Nat.lt_succ_of_lt (R.tag _ _ b)
 used := R.used
 made := R.made
theorem bg.newD {xs : MD} (R : bg g H t) : bg (g.setD H.next xs) (H.putD H.next xs).up (t.setT H.next .misc) where
 ent k r q := ⟨Nat.lt_succ_of_lt (R.ent _ _ q).1, (R.ent _ _ q).2⟩
 ins c k fs q := ⟨Nat.lt_succ_of_lt (R.ins _ _ _ q).1, (R.ins _ _ _ q).2⟩
 dct k ys q := by
  rcases aS q with ⟨rfl, rfl⟩ | ⟨a, b⟩
  ·exact ⟨ah, gW⟩
  ·exact ⟨(af a).trans (R.dct _ _ b).1, (bP a).trans (R.dct _ _ b).2⟩
 lst k d q := by
  have ne : k ≠ H.next := fun e => by have := R.tag _ _ (R.lst _ _ q).1; exact nof (bu _ _ 0 0 .x .y (.a .y (.n 1)) .x (.n 1) (.n 0) rfl (geE e) this)
  exact ⟨(af ne).trans (R.lst _ _ q).1, (R.lst _ _ q).2⟩
 reg k r q := by
  obtain ⟨a, b, c, d⟩ := R.reg k r q
  refine ⟨Nat.lt_succ_of_lt a, b, c.congr fun a x ha ht => ?_, { d with }⟩
  have ne : a ≠ H.next := fun e => by have := R.tag _ _ ha; exact nof (bu _ _ 0 0 .x .y (.a .y (.n 1)) .x (.n 1) (.n 0) rfl (geE e) this)
  exact ⟨af ne, rfl, bP ne⟩
 tag k x q := by
  rcases aS q with ⟨rfl, rfl⟩ | ⟨a, b⟩
  ·exact Nat.lt_succ_self _
  ·exact Nat.lt_succ_of_lt (R.tag _ _ b)
 used := R.used
 made := R.made
structure G.Le (g g' : G) : Prop where
 ent : ∀ k r, g.ent k = some r -> g'.ent k = some r
 ins : ∀ c k fs, g.ins c k = some fs -> g'.ins c k = some fs
 lst : ∀ k xs, g.lst k = some xs -> g'.lst k = some xs
 dct : ∀ k xs, g.dct k = some xs -> g'.dct k = some xs
 reg : ∀ k r, g.reg k = some r -> g'.reg k = some r
theorem G.Le.refl {g : G} : g.Le g := ⟨fun _ _ h => h, fun _ _ _ h => h, fun _ _ h => h, fun _ _ h => h, fun _ _ h => h⟩
theorem G.Le.trans {g g' g'' : G} (a : g.Le g') (b : g'.Le g'') : g.Le g'' := ⟨fun _ _ h => b.ent _ _ (a.ent _ _ h), fun _ _ _ h => b.ins _ _ _ (a.ins _ _ _ h), fun _ _ h => b.lst _ _ (a.lst _ _ h), fun _ _ h => b.dct _ _ (a.dct _ _ h), fun _ _ h => b.reg _ _ (a.reg _ _ h)⟩
theorem bg.drop {g' : G} (R : bg g' H t) (ent : g'.ent = g.ent) (reg : g'.reg = g.reg) (root : g'.root = g.root) (used : g'.used = g.used) (ins : ∀ c k fs, g.ins c k = some fs -> g'.ins c k = some fs) (lst : ∀ k xs, g.lst k = some xs -> g'.lst k = some xs) (dct : ∀ k xs, g.dct k = some xs -> g'.dct k = some xs) : bg g H t where
 ent k r q := R.ent k r (by rw [ent]; exact q)
 ins c k fs q := R.ins c k fs (ins _ _ _ q)
 lst k fs q := R.lst k fs (lst _ _ q)
 dct k fs q := R.dct k fs (dct _ _ q)
 reg k r q := by
  obtain ⟨a, b, c, d⟩ := R.reg k r (by rw [reg]; exact q)
  rw [root] at b
  refine ⟨a, b, c, ⟨d.kind, d.part, by rw [<- root]; exact d.made, by rw [<- ent]; exact d.es, d.ord, by rw [<- used]; exact d.esL, by rw [<- used]; exact d.ordL, by rw [<- used]; exact d.nlsL, by rw [<- used]; exact d.cntL, by rw [<- used]; exact d.cnts, by rw [<- used]; exact d.homL, d.num1, d.num2, d.lev1, by rw [<- used]; exact d.lev2⟩⟩
 tag := R.tag
 used := by rw [<- used]; exact R.used
 made := by rw [<- used]; exact R.made
end
section
variable {g : G} {H H' : MH} {t : Hid} {k : Nat}
theorem bg.setR {r r' : Rg} {p' : Rp} {tag' : Nat -> Option Tag} {md u : Nat} (R : bg g H t) (h : g.reg k = some r) (hn : H.next <= H'.next) (hu : g.used <= u) (hu2 : u <= 1000) (hm : t.made <= md) (hm2 : md <= u) (hm3 : md = t.made \/ k = g.root)
  (hi : H'.ins 2 k = some (RF g.root r' p')) (hi' : ∀ c j, ¬ (c = 2 /\ j = k) -> H'.ins c j = H.ins c j)
  (ht : ∀ a x, t.tag a = some x -> tag' a = some x /\ (x.of ≠ some k -> H'.lst a = H.lst a /\ H'.dct a = H.dct a)) (ht' : ∀ a x, tag' a = some x -> a < H'.next)
  (hL : wp tag' H' k r' p') (hO : ROk ((g.setR k r').setU u) md k r' p') : bg ((g.setR k r').setU u) H' ⟨tag', (t.setP k p').prv, md⟩ where
 ent j e q := by
  obtain ⟨a, b, c⟩ := R.ent j e q
  exact ⟨Nat.lt_of_lt_of_le a hn, (hi' 1 j fun z => absurd z.1 (by decide)).trans b, c⟩
 ins c j fs q := by
  refine ay fun X hX => ?_
  obtain ⟨x1, x2, x3, x4, x5⟩ := R.ins _ _ _ q
  refine hX ?_
  exact ⟨Nat.lt_of_lt_of_le x1 hn, x2, x3, (hi' c j fun z => x3 z.1).trans x4, x5⟩
 lst j xs q := ⟨(ht _ _ (R.lst _ _ q).1).1, (((ht _ _ (R.lst _ _ q).1).2 (fun e => nomatch e)).1).trans (R.lst _ _ q).2⟩
 dct j xs q := ⟨(ht _ _ (R.dct _ _ q).1).1, (((ht _ _ (R.dct _ _ q).1).2 (fun e => nomatch e)).2).trans (R.dct _ _ q).2⟩
 reg j s q := by
  by_cases e : j = k
  ·subst e
   have q : upd g.reg j r' j = some s := q
   rw [ah] at q
   obtain rfl := Option.some.inj q
   refine ⟨Nat.lt_of_lt_of_le (R.reg _ _ h).1 hn, ?_, ?_, ?_⟩
   ·rw [show (Hid.mk tag' (t.setP j p').prv md).prv j = p' from dm]; exact hi
   ·rw [show (Hid.mk tag' (t.setP j p').prv md).prv j = p' from dm]; exact hL
   ·rw [show (Hid.mk tag' (t.setP j p').prv md).prv j = p' from dm]; exact hO
  ·have q : upd g.reg k r' j = some s := q
   refine ay fun X hX => ?_
   rw [af e] at q
   obtain ⟨a, b, c, d⟩ := R.reg j s q
   refine hX ?_
   rw [show (Hid.mk tag' (t.setP k p').prv md).prv j = t.prv j from mT e]
   refine ⟨Nat.lt_of_lt_of_le a hn, (hi' 2 j fun z => e z.2).trans b, c.congr fun a x ha hx => ?_, ?_⟩
   ·have := (ht a x ha).2 (by rw [hx]; exact fun z => e (Option.some.inj z))
    exact ⟨(ht a x ha).1.trans ha.symm, this.1, this.2⟩
   ·refine ⟨d.kind, d.part, ?_, d.es, d.ord, Nat.le_trans d.esL hu, Nat.le_trans d.ordL hu, Nat.le_trans d.nlsL hu, Nat.le_trans d.cntL hu, fun x hx => Nat.le_trans (d.cnts x hx) hu, Nat.le_trans d.homL hu, d.num1, Int.le_trans d.num2 (Int.ofNat_le.mpr hm), d.lev1, Int.le_trans d.lev2 (Int.ofNat_le.mpr hu)⟩
    rw [d.made]
    rcases hm3 with z | z
    ·rw [z]; rfl
    ·show (if j = g.root then t.made else 0) = if j = g.root then md else 0
     rw [if_neg (by rw [<- z]; exact e), if_neg (by rw [<- z]; exact e)]
 tag := ht'
 used := hu2
 made := hm2
structure Bld (c k : Nat) (fs : aY) (g : G) (H : MH) : Prop where
 rep : Rep g H
 at_ : H.ins c k = some fs
 lt : k < H.next
 ent : g.ent k = none
 reg : g.reg k = none
 ins : ∀ c, g.ins c k = none
theorem bg.addE {r : Er} (R : bg g H t) (hk : k < H.next) (hi : H.ins 1 k = some (EF r)) (ok : EOk r) (h : g.ent k = none) : bg (g.setE k r) H t where
 ent j e q := by
  rcases aS q with ⟨rfl, rfl⟩ | ⟨a, b⟩
  ·exact ⟨hk, hi, ok⟩
  ·exact R.ent _ _ b
 ins := R.ins
 lst := R.lst
 dct := R.dct
 reg j s q := by
  refine ay fun X hX => ?_
  obtain ⟨a, b, c, d⟩ := R.reg j s q
  have des : ∀ p ∈ s.es, ∃ e, (g.setE k r).ent p.2 = some e /\ e.name = p.1 := by
   intro p hp
   obtain ⟨e, e1, e2⟩ := d.es p hp
   exact ⟨e, (af (fun z => by rw [z, h] at e1; exact nos e1)).trans e1, e2⟩
  refine hX ?_
  exact ⟨a, b, c, { d with es := des }⟩
 tag := R.tag
 used := R.used
 made := R.made
theorem bg.addI {c : Nat} {fs : aY} (R : bg g H t) (hk : k < H.next) (hc : c ≠ 1) (hc2 : c ≠ 2) (hi : H.ins c k = some fs) (ok : eN c fs) : bg (g.setI c k fs) H t where
 ent := R.ent
 ins c' j fs' q := by
  rcases gy q with ⟨rfl, rfl, rfl⟩ | ⟨a, b⟩
  ·exact ⟨hk, hc, hc2, hi, ok⟩
  ·exact R.ins _ _ _ b
 lst := R.lst
 dct := R.dct
 reg j r q := by
  refine ay fun X hX => ?_
  obtain ⟨a, b, c, d⟩ := R.reg j r q
  refine hX ?_
  exact ⟨a, b, c, { d with }⟩
 tag := R.tag
 used := R.used
 made := R.made
theorem Bld.addE {r : Er} (B : Bld 1 k (EF r) g H) (ok : EOk r) : Rep (g.setE k r) H := by
 obtain ⟨t, R⟩ := B.rep
 exact ⟨t, R.addE B.lt B.at_ ok B.ent⟩
theorem Bld.addI {c : Nat} {fs : aY} (B : Bld c k fs g H) (hc : c ≠ 1) (hc2 : c ≠ 2) (ok : eN c fs) : Rep (g.setI c k fs) H := by
 obtain ⟨t, R⟩ := B.rep
 exact ⟨t, R.addI B.lt hc hc2 B.at_ ok⟩
theorem vL {c : Nat} {Q : MV -> MH -> Prop} (R : Rep g H) (h : ∀ k H', Bld c k [] g H' -> Q (.ins c k) H') : W (newI c) H Q := by
 refine ⟨_, _, rfl, h _ _ ?_⟩
 refine ay fun X hX => ?_
 obtain ⟨t, R⟩ := R
 obtain ⟨a, b, cc, _⟩ := R.none_at (Nat.le_refl _)
 refine hX ?_
 refine ⟨⟨t, R.off (Nat.le_succ _) (fun c' k' hk _ _ _ => bB fun z => by exact nof (bu _ _ 0 0 (.a .x (.n 1)) .y .y .x (.n 1) (.n 0) rfl hk (geE z.2))) (fun _ _ => rfl) fun _ _ => rfl⟩, dp, Nat.lt_succ_self _, a, b, cc⟩
theorem cT {c : Nat} {fs : aY} (h : (decide (fs.length <= 100) && fs.all fun p => okN c p.1) = true) : eN c fs := by
 obtain ⟨a, b⟩ := Bool.and_eq_true_iff.mp h
 exact ⟨of_decide_eq_true a, fun n v e => iA (List.all_eq_true.mp b _ (bQ e))⟩
theorem dQ {okF : Nat -> Str -> Bool} {c : Nat} {fs : aY} {n : Str} {v : MV} (h : H.ins c k = some fs) (ok : okF c n = true) (e : ad fs n = some v) : am okF (.ins c k) n H = some (v, H) :=
 obS (a := fs) h ((if_pos ok).trans (obS e rfl))
theorem cQ {okF : Nat -> Str -> Bool} {c : Nat} {fs fs' : aY} {n : Str} {v : MV} (h : H.ins c k = some fs) (ok : okF c n = true) (hl : fs.length <= 500) (e : putS n v fs = fs') : ar okF (.ins c k) n v H = some ((), H.putI c k fs') := by
 subst e
 exact obS (a := fs) h (if_pos (Bool.and_eq_true_iff.mpr ⟨ok, decide_eq_true hl⟩))
theorem wv (r : Er) : eN 1 (EF r) := cT (by kernel_rfl)
theorem qX (n : Nat) (r : Rg) (p : Rp) : eN 2 (RF n r p) := cT (by kernel_rfl)
theorem oZ (r : Sr) : eN 0 (SF r) := cT (by kernel_rfl)
theorem oX (r : Tr) : eN 3 (TF r) := cT (by kernel_rfl)
theorem wm (a : Nat) (c : MV) : eN 4 (StF a c) := cT (by kernel_rfl)
theorem rV (r : Scr) : eN 5 (ScF r) := cT (by kernel_rfl)
theorem rT {c : Nat} {fs : aY} {n : Str} {v : MV} {Q : MV -> MH -> Prop} (B : Bld c k fs g H) (ok : okN c n = true) (e : ad fs n = some v) (h : Q v H) : W (am P0.okF (.ins c k) n) H Q :=
 ⟨_, _, dQ B.at_ (iA ok) e, h⟩
theorem oB {c : Nat} {fs fs' : aY} {n : Str} {v : MV} {Q : Unit -> MH -> Prop} (B : Bld c k fs g H) (ok : okN c n = true) (hl : fs.length <= 500) (e : putS n v fs = fs') (h : ∀ H', Bld c k fs' g H' -> Q () H') : W (ar P0.okF (.ins c k) n v) H Q := by
 refine ⟨_, _, cQ B.at_ (iA ok) hl e, h _ ?_⟩
 obtain ⟨t, R⟩ := B.rep
 refine ⟨⟨t, R.off (Nat.le_refl _) (fun c' k' hk h1 h2 h3 => bB fun z => ?_) (fun _ _ => rfl) fun _ _ => rfl⟩, dp, B.lt, B.ent, B.reg, B.ins⟩
 obtain ⟨rfl, rfl⟩ := z
 by_cases e1 : c' = 1
 ·exact h1 e1 B.ent
 ·by_cases e2 : c' = 2
  ·exact h2 e2 B.reg
  ·exact h3 e1 e2 (B.ins _)
theorem kS {xs : List MV} {Q : MV -> MH -> Prop} (R : Rep g H) (h : ∀ k H', g.lst k = none -> g.dct k = none -> Rep (g.setL k xs) H' -> Q (.lst k) H') : W (newL xs) H Q := by
 refine ay fun X hX => ?_
 obtain ⟨t, R⟩ := R
 obtain ⟨_, _, _, a, b, _⟩ := R.none_at (Nat.le_refl _)
 refine hX ?_
 exact ⟨_, _, rfl, h _ _ a b ⟨_, R.newL⟩⟩
theorem Rep.dropL {xs : List MV} (R : Rep (g.setL k xs) H) (h : g.lst k = none) : Rep g H := by
 obtain ⟨t, R⟩ := R
 exact ⟨t, R.drop rfl rfl rfl rfl (fun _ _ _ h => h) (fun j ys e => (af (fun z => by rw [z, h] at e; exact nos e)).trans e) fun _ _ h => h⟩
theorem Rep.dropD {xs : MD} (R : Rep (g.setD k xs) H) (h : g.dct k = none) : Rep g H := by
 obtain ⟨t, R⟩ := R
 exact ⟨t, R.drop rfl rfl rfl rfl (fun _ _ _ h => h) (fun _ _ h => h) fun j ys e => (af (fun z => by rw [z, h] at e; exact nos e)).trans e⟩
theorem hZ {c : Nat} {fs : aY} {xs : List MV} {Q : MV -> MH -> Prop} (B : Bld c k fs g H) (h : ∀ k' H', g.lst k' = none -> g.dct k' = none -> Bld c k fs (g.setL k' xs) H' -> Q (.lst k') H') : W (newL xs) H Q := by
 refine ay fun X hX => ?_
 obtain ⟨t, R⟩ := B.rep
 obtain ⟨_, _, _, a, b, _⟩ := R.none_at (Nat.le_refl _)
 refine hX ?_
 exact ⟨_, _, rfl, h _ _ a b ⟨⟨_, R.newL⟩, B.at_, Nat.lt_succ_of_lt B.lt, B.ent, B.reg, B.ins⟩⟩
theorem ek {c : Nat} {fs : aY} {xs : MD} {Q : MV -> MH -> Prop} (B : Bld c k fs g H) (h : ∀ k' H', g.lst k' = none -> g.dct k' = none -> Bld c k fs (g.setD k' xs) H' -> Q (.dct k') H') : W (newD xs) H Q := by
 refine ay fun X hX => ?_
 obtain ⟨t, R⟩ := B.rep
 obtain ⟨_, _, _, a, b, _⟩ := R.none_at (Nat.le_refl _)
 refine hX ?_
 exact ⟨_, _, rfl, h _ _ a b ⟨⟨_, R.newD⟩, B.at_, Nat.lt_succ_of_lt B.lt, B.ent, B.reg, B.ins⟩⟩
theorem Bld.dropL {c k' : Nat} {fs : aY} {xs : List MV} (B : Bld c k fs (g.setL k' xs) H) (h : g.lst k' = none) : Bld c k fs g H := ⟨B.rep.dropL h, B.at_, B.lt, B.ent, B.reg, B.ins⟩
theorem Bld.dropD {c k' : Nat} {fs : aY} {xs : MD} (B : Bld c k fs (g.setD k' xs) H) (h : g.dct k' = none) : Bld c k fs g H := ⟨B.rep.dropD h, B.at_, B.lt, B.ent, B.reg, B.ins⟩
theorem yA {xs : MD} {Q : MV -> MH -> Prop} (R : Rep g H) (h : ∀ k H', g.lst k = none -> g.dct k = none -> Rep (g.setD k xs) H' -> Q (.dct k) H') : W (newD xs) H Q := by
 refine ay fun X hX => ?_
 obtain ⟨t, R⟩ := R
 obtain ⟨_, _, _, a, b, _⟩ := R.none_at (Nat.le_refl _)
 refine hX ?_
 exact ⟨_, _, rfl, h _ _ a b ⟨_, R.newD⟩⟩
theorem oN {r : Er} {n : Str} {v : MV} {Q : MV -> MH -> Prop} (R : Rep g H) (h : g.ent k = some r) (e : ad (EF r) n = some v) (q : Q v H) : W (am P0.okF (.ins 1 k) n) H Q := by
 obtain ⟨t, R⟩ := R
 exact ⟨_, _, dQ (R.ent _ _ h).2.1 ((wv r).2 _ _ e) e, q⟩
theorem bz {r r' : Er} {n : Str} {v : MV} {Q : Unit -> MH -> Prop} (R : Rep g H) (h : g.ent k = some r) (ok : okN 1 n = true) (e : putS n v (EF r) = EF r') (hn : r'.name = r.name) (eo : EOk r -> EOk r') (q : ∀ H', Rep (g.setE k r') H' -> Q () H') : W (ar P0.okF (.ins 1 k) n v) H Q := by
 obtain ⟨t, R⟩ := R
 exact ⟨_, _, cQ (R.ent _ _ h).2.1 (iA ok) (Nat.le_trans (wv r).1 (by decide)) e, q _ ⟨t, R.setE h hn (eo (R.ent _ _ h).2.2)⟩⟩
theorem rS {c : Nat} {fs : aY} {n : Str} {v : MV} {Q : MV -> MH -> Prop} (R : Rep g H) (h : g.ins c k = some fs) (e : ad fs n = some v) (q : Q v H) : W (am P0.okF (.ins c k) n) H Q := by
 refine ay fun X hX => ?_
 obtain ⟨t, R⟩ := R
 obtain ⟨_, _, _, a, b⟩ := R.ins _ _ _ h
 refine hX ?_
 exact ⟨_, _, dQ a (b.2 _ _ e) e, q⟩
theorem gI {c : Nat} {fs fs' : aY} {n : Str} {v : MV} {Q : Unit -> MH -> Prop} (R : Rep g H) (h : g.ins c k = some fs) (ok : okN c n = true) (e : putS n v fs = fs') (ok' : eN c fs') (q : ∀ H', Rep (g.setI c k fs') H' -> Q () H') : W (ar P0.okF (.ins c k) n v) H Q := by
 obtain ⟨t, R⟩ := R
 obtain ⟨_, _, _, a, b⟩ := R.ins _ _ _ h
 exact ⟨_, _, cQ a (iA ok) (Nat.le_trans b.1 (by decide)) e, q _ ⟨t, R.setI h ok'⟩⟩
theorem gL {r : Rg} {n : Str} {v : MV} {Q : MV -> MH -> Prop} (R : Rep g H) (h : g.reg k = some r) (e : ∀ p, ad (RF g.root r p) n = some v) (q : Q v H) : W (am P0.okF (.ins 2 k) n) H Q := by
 obtain ⟨t, R⟩ := R
 exact ⟨_, _, dQ (R.reg _ _ h).2.1 ((qX _ _ (t.prv k)).2 _ _ (e _)) (e (t.prv k)), q⟩
theorem oM {r : Rg} {n : Str} {v : MV} {Q : MV -> MH -> Prop} (R : bg g H t) (h : g.reg k = some r) (e : ad (RF g.root r (t.prv k)) n = some v) (q : Q v H) : W (am P0.okF (.ins 2 k) n) H Q :=
 ⟨_, _, dQ (R.reg _ _ h).2.1 ((qX _ _ _).2 _ _ e) e, q⟩
theorem Rep.le {g' : G} (R : Rep g' H) (ent : g'.ent = g.ent) (reg : g'.reg = g.reg) (root : g'.root = g.root) (used : g'.used = g.used) (ins : ∀ c k fs, g.ins c k = some fs -> g'.ins c k = some fs) (lst : ∀ k xs, g.lst k = some xs -> g'.lst k = some xs) (dct : ∀ k xs, g.dct k = some xs -> g'.dct k = some xs) : Rep g H := by
 obtain ⟨t, R⟩ := R
 exact ⟨t, R.drop ent reg root used ins lst dct⟩
end
section
variable {H : MH}
theorem fG {a b : MV} {da db : PyData} (ha : pd 6 H a = some da) (hb : pd 6 H b = some db) (sa : SeqAt.shaped da = true) (sb : SeqAt.shaped db = true) : eqM a b H = some (PyData.eqv da db, H) :=
 obS ha (obS hb (if_pos (Bool.and_eq_true_iff.mpr ⟨sa, sb⟩)))
theorem iO {a b : MV} {c : Bool} (h : eqM a b H = some (c, H)) : az .Eq a b H = some (.bool c, H) := obS h rfl
theorem kM {a b : MV} {c : Bool} (h : eqM a b H = some (c, H)) : az .NotEq a b H = some (.bool (!c), H) := obS h rfl
theorem rG {a b : Str} (ha : PyData.strOk a = true) (hb : PyData.strOk b = true) : eqM (.str a) (.str b) H = some (decide (a = b), H) := by
 have shp : ∀ x : Str, PyData.strOk x = true -> SeqAt.shaped (.str x) = true := fun x h => by
  show (PyData.strOk x && decide (PyData.depth (.str x) <= 64)) = true
  rw [h]; simp [PyData.depth]
 rw [fG (da := .str a) (db := .str b) rfl rfl (shp a ha) (shp b hb)]
 have e : PyData.eqv (.str a) (.str b) = decide (a = b) := by
  rw [PyData.eqv]; rfl
 rw [e]
theorem rI {a b : Int} : eqM (.int a) (.int b) H = some (decide (a = b), H) := by
 rw [fG (da := .int a) (db := .int b) rfl rfl (by simp [SeqAt.shaped, PyData.canLay0, PyData.depth]) (by simp [SeqAt.shaped, PyData.canLay0, PyData.depth])]
 have e : PyData.eqv (.int a) (.int b) = decide (a = b) := by
  rw [PyData.eqv]; rfl
 rw [e]
theorem fj {n : Nat} : ∀ ns : List Int, bo (pd n H) (ns.map .int) = some (ns.map .int) := by
 intro ns
 induction ns with
 | nil => rfl
 | cons i r ih =>
  show (match pd n H (.int i) with
   | some d => (match bo (pd n H) (r.map .int) with
    | some ds => some (d :: ds)
    | none => none)
   | none => none) = _
  rw [ih]
  cases n <;> rfl
theorem cS : ∀ ns : List Int, PyData.canLayAll0 (ns.map .int) = true
 | [] => by simp [PyData.canLayAll0]
 | i :: r => by simp [PyData.canLayAll0, PyData.canLay0, cS r]
theorem bN : ∀ ns : List Int, PyData.depthAll (ns.map .int) = 0
 | [] => by simp [PyData.depthAll]
 | i :: r => by simp [PyData.depthAll, PyData.depth, bN r]
theorem kK : ∀ ms ns : List Int, PyData.eqvAll (ms.map .int) (ns.map .int) = decide (ms = ns) := by
 intro ms
 induction ms with
 | nil => intro ns; cases ns <;> simp [PyData.eqvAll]
 | cons i r ih =>
  intro ns
  cases ns with
  | nil => simp [PyData.eqvAll]
  | cons j s =>
  rw [List.map_cons, List.map_cons, PyData.eqvAll, ih s, PyData.eqv]
  by_cases e : i = j <;> by_cases e' : r = s <;> simp [e, e']
noncomputable def uw (k : List Int × Int) : PyData := .tuple [.tuple (k.1.map .int), .int k.2]
theorem kg {n : Nat} {xs : List MV} {ds : List PyData} (h : bo (pd n H) xs = some ds) : pd (n + 1) H (.tup xs) = some (.tuple ds) := by
 show (bo (pd n H) xs).map PyData.tuple = _
 rw [h]; rfl
theorem lD {n : Nat} {xs : List MV} {ds : List PyData} (h : bo (pd n H) xs = some ds) : pd (n + 1) H (.fz xs) = some (.list ds) := by
 show (bo (pd n H) xs).map PyData.list = _
 rw [h]; rfl
theorem aL {f : MV -> Option PyData} {x : MV} {xs : List MV} {d : PyData} {ds : List PyData} (h : f x = some d) (hs : bo f xs = some ds) : bo f (x :: xs) = some (d :: ds) := by
 show (match f x with
  | some d => (match bo f xs with
   | some ds => some (d :: ds)
   | none => none)
  | none => none) = _
 rw [h, hs]
theorem rm {n : Nat} (k : List Int × Int) : pd (n + 2) H (qe (some k)) = some (uw k) :=
 kg (aL (kg (fj _)) (aL (by cases n <;> rfl) rfl))
theorem mO (k : List Int × Int) : SeqAt.shaped (uw k) = true := by
 simp [SeqAt.shaped, uw, PyData.canLay0, PyData.canLayAll0, cS, PyData.depth, PyData.depthAll, bN]
theorem rH {k l : List Int × Int} : eqM (qe (some k)) (qe (some l)) H = some (decide (k = l), H) := by
 rw [fG (rm (n := 4) k) (rm (n := 4) l) (mO k) (mO l)]
 have e : PyData.eqv (uw k) (uw l) = decide (k = l) := by
  obtain ⟨a, b⟩ := k
  obtain ⟨c, d⟩ := l
  simp only [uw, PyData.eqv, PyData.eqvAll, kK, Bool.and_true]
  by_cases e : a = c <;> by_cases e' : b = d <;> simp [e, e']
 rw [e]
theorem kR (x : Int) : ∀ ns : List Int, ((ns.map PyData.int).any fun y => PyData.eqv y (.int x)) = decide (x ∈ ns) := by
 intro ns
 induction ns with
 | nil => simp
 | cons i r ih =>
  rw [List.map_cons, List.any_cons, ih, PyData.eqv]
  by_cases e : x = i
  ·simp [e]
  ·have e' : ¬ i = x := fun z => e z.symm
   by_cases e2 : x ∈ r <;> simp [e, e', e2]
theorem tl {x c : MV} {b : Bool} (h : inM x c H = some (b, H)) (hx : eP c = none) (hc : fM c = none) : az .In x c H = some (.bool b, H) /\ az .NotIn x c H = some (.bool (!b), H) := by
 have e : rC x c H = some (b, H) := by
  rw [<- h]
  unfold rC
  rw [hx, hc]; rfl
 exact ⟨obS e rfl, obS e rfl⟩
theorem vd {x : Int} {ns : List Int} : inM (.int x) (.tup (ns.map .int)) H = some (decide (x ∈ ns), H) := by
 refine obS (a := .int x) rfl (obS (kg (fj _)) (obS (a := ns.map .int) rfl ?_))
 rw [if_pos (by simp [SeqAt.shaped, PyData.canLay0, cS, PyData.depth, bN]), kR]
theorem xd {x : Int} {ns : List Int} : inM (.int x) (.fz (ns.map .int)) H = some (decide (x ∈ ns), H) := by
 refine obS (a := .int x) rfl (obS (lD (fj _)) (obS (a := ns.map .int) rfl ?_))
 rw [if_pos (by simp [SeqAt.shaped, PyData.canLay0, cS, PyData.depth, bN]), kR]
theorem jv : ∀ x ∈ NMs, PyData.strOk x = true := by decide +kernel
theorem nS : ∀ x ∈ EKs, PyData.strOk x = true := by decide +kernel
theorem lB : ∀ x ∈ PTs, PyData.strOk x = true := by decide +kernel
variable {Q : MV -> MH -> Prop}
theorem yQ {v : MV} (h : Q (.bool (isNone v)) H) : W (az .Is v .none) H Q := ⟨_, _, rfl, h⟩
theorem tR {v : MV} (h : Q (.bool (!isNone v)) H) : W (az .IsNot v .none) H Q := ⟨_, _, rfl, h⟩
theorem gq {a b : Str} (ha : PyData.strOk a = true) (hb : PyData.strOk b = true) (h : Q (.bool (decide (a = b))) H) : W (az .Eq (.str a) (.str b)) H Q := ⟨_, _, iO (rG ha hb), h⟩
theorem oG {a b : Str} (ha : PyData.strOk a = true) (hb : PyData.strOk b = true) (h : Q (.bool (!decide (a = b))) H) : W (az .NotEq (.str a) (.str b)) H Q := ⟨_, _, kM (rG ha hb), h⟩
theorem wa {a b : Int} (h : Q (.bool (decide (a = b))) H) : W (az .Eq (.int a) (.int b)) H Q := ⟨_, _, iO rI, h⟩
theorem xm {a b : Int} (h : Q (.bool (!decide (a = b))) H) : W (az .NotEq (.int a) (.int b)) H Q := ⟨_, _, kM rI, h⟩
theorem vN {a b : Int} (h : Q (.bool (decide (a < b))) H) : W (az .Lt (.int a) (.int b)) H Q := ⟨_, _, rfl, h⟩
theorem xq {a b : Int} (h : Q (.bool (decide (b < a))) H) : W (az .Gt (.int a) (.int b)) H Q := ⟨_, _, rfl, h⟩
theorem vZ {k l : List Int × Int} (h : Q (.bool (decide (k = l))) H) : W (az .Eq (qe (some k)) (qe (some l))) H Q := ⟨_, _, iO rH, h⟩
theorem hU {op : Operator} {i j v : Int} (e : tK op i j = some v) : dz op (.int i) (.int j) H = some (.int v, H) := obS e rfl
theorem fU {a b : Int} (ha : a.natAbs < 2 ^ 62) (hb : b.natAbs < 2 ^ 62) (h : Q (.int (a + b)) H) : W (dz .Add (.int a) (.int b)) H Q :=
 ⟨_, _, hU (if_pos (by simp [fD, ha, hb])), h⟩
theorem vB {a b : Int} (ha : a.natAbs < 2 ^ 62) (hb : b.natAbs < 2 ^ 62) (h : Q (.int (a - b)) H) : W (dz .Sub (.int a) (.int b)) H Q :=
 ⟨_, _, hU (if_pos (by simp [fD, ha, hb])), h⟩
theorem oH {a b : Int} (ha : a.natAbs < 2 ^ 62) (hb : b.natAbs < 2 ^ 62) (h : Q (.int (a * b)) H) : W (dz .Mult (.int a) (.int b)) H Q :=
 ⟨_, _, hU (if_pos (by simp [fD, ha, hb])), h⟩
theorem rN {a b : Int} (hb : 0 < b) (hb' : b.natAbs < 2 ^ 62) (h : Q (.int (Int.fmod a b)) H) : W (dz .Mod (.int a) (.int b)) H Q :=
 ⟨_, _, hU (if_pos (by simp [fD, hb, hb'])), h⟩
theorem oT {a b : Int} (ha : a.natAbs < 2 ^ 62) (hb : b.natAbs < 2 ^ 62) (h : Q (.int (a + b)) H) : W (iT .Add (.int a) (.int b)) H Q :=
 ⟨_, _, (show (if fD a && fD b then some (MV.int (a + b), H) else none) = _ from if_pos (by simp [fD, ha, hb])), h⟩
theorem tQ {ns : List Int} {a : Int} (h : Q (.tup (ns.map .int)) H) : W (aw (qe (some (ns, a))) (.int 0)) H Q := ⟨_, _, rfl, h⟩
theorem tP {ns : List Int} {a : Int} (h : Q (.int a) H) : W (aw (qe (some (ns, a))) (.int 1)) H Q := ⟨_, _, rfl, h⟩
theorem xp {x : Int} {ns : List Int} (h : Q (.bool (decide (x ∈ ns))) H) : W (az .In (.int x) (.tup (ns.map .int))) H Q := ⟨_, _, (tl vd rfl rfl).1, h⟩
theorem qN {x : Int} {ns : List Int} (h : Q (.bool (!decide (x ∈ ns))) H) : W (az .NotIn (.int x) (.fz (ns.map .int))) H Q := ⟨_, _, (tl xd rfl rfl).2, h⟩
end
local macro_rules | `(tactic| trivial) => `(tactic| first
 | with_reducible first | apply dU | apply wb | apply aB | apply bp | apply uh | apply qW | apply um | apply q5 | apply qY | apply qZ | apply ul
 | ((with_reducible first | apply qO | apply xj | apply xk | apply xu); first | rfl | assumption)
 | ((with_reducible apply vK); (first | rfl | assumption); first | rfl | assumption)
 | ((with_reducible apply vJ); (first | rfl | assumption); (first | rfl | assumption); first | rfl | assumption)
 | ((with_reducible apply xl); (first | rfl | assumption); (first | rfl | assumption); (first | rfl | assumption); first | rfl | assumption)
 | with_reducible first | apply bZ | apply jO
 | ((with_reducible first | apply oN | apply rS); assumption; assumption; rfl)
 | ((with_reducible apply gL); assumption; assumption; exact fun _ => rfl)
 | ((with_reducible apply rT); assumption; kernel_rfl; rfl)
 | ((with_reducible apply oM); assumption; assumption; rfl)
 | ((with_reducible first | apply vG | apply yS | apply yr | apply xD | apply wy); rfl)
 | ((with_reducible first | apply oF | apply yT | apply yt | apply xE | apply rY); rfl)
 | with_reducible first | apply xi | apply yO | apply wh | apply xy | apply vH | apply xh | apply uc | apply wg
 | with_reducible first | apply yQ | apply tR | apply wa | apply xm | apply vN | apply xq | apply vZ | apply tQ | apply tP | apply xp)
section
variable {g : G} {H : MH} {Q : MV -> MH -> Prop} {d : Nat}
noncomputable def hom (a b : Er) : Bool := decide (a.name = b.name) && (a.key.isNone || (b.key.isNone || decide (a.key = b.key)))
theorem Rep.eok {k : Nat} {r : Er} (R : Rep g H) (h : g.ent k = some r) : EOk r := by
 obtain ⟨t, R⟩ := R
 exact (R.ent _ _ h).2.2
theorem Rep.nmOk {k : Nat} {r : Er} (R : Rep g H) (h : g.ent k = some r) : PyData.strOk r.name = true := jv _ (R.eok h).name
theorem cN {a b : Nat} {ra rb : Er} (R : Rep g H) (ha : g.ent a = some ra) (hb : g.ent b = some rb) (q : Q (.bool (hom ra rb)) H) : W (fn (d + 2) "homographs" [.ins 1 a, .ins 1 b]) H Q := by
 rw [gS]
 repeat trivial
 refine oG (R.nmOk ha) (R.nmOk hb) ?_
 repeat trivial
 unfold hom at q
 by_cases e : ra.name = rb.name
 ·rw [decide_eq_true e] at q ⊢
  repeat trivial
  cases hk : ra.key with
  | none =>
   rw [hk] at q
   repeat trivial
  | some k =>
   rw [hk] at q
   cases hk' : rb.key with
   | none =>
    rw [hk'] at q
    repeat trivial
    rw [hk']
    repeat trivial
   | some k' =>
    rw [hk'] at q
    repeat trivial
    rw [hk']
    repeat trivial
    rw [hk, hk']
    repeat trivial
    simpa using q
 ·rw [decide_eq_false e] at q ⊢
  repeat trivial
noncomputable def bY (e : Er) (n : Int) : Bool := match e.key with
 | none => false
 | some (ns, a) => decide (n ∈ ns) || decide (a = n)
theorem l7 {a : Nat} {ra : Er} {n : Int} (R : Rep g H) (ha : g.ent a = some ra) (q : Q (.bool (bY ra n)) H) : W (fn (d + 2) "mentions_type" [.ins 1 a, .int n]) H Q := by
 rw [eK]
 unfold bY at q
 cases hk : ra.key with
 | none =>
  rw [hk] at q
  repeat trivial
  rw [hk]
  repeat trivial
 | some k =>
  obtain ⟨ns, b⟩ := k
  rw [hk] at q
  repeat trivial
  rw [hk]
  repeat trivial
  rw [hk]
  repeat trivial
  refine yE (fun e => ?_) fun e => ?_
  ·repeat trivial
   rw [hk]
   repeat trivial
   have q : Q (.bool (decide (n ∈ ns) || decide (b = n))) H := q
   rw [e] at q
   exact q
  ·repeat trivial
   have q : Q (.bool (decide (n ∈ ns) || decide (b = n))) H := q
   rw [e] at q
   exact q
theorem iZ {a : Nat} {ra : Er} (R : Rep g H) (ha : g.ent a = some ra) (q : ∀ H', Rep (g.setE a (ra.wY true)) H' -> Q .none H') : W (fn (d + 2) "make_ready" [.ins 1 a]) H Q := by
 rw [gP]
 repeat trivial
 refine bz (r' := (ra.wY true)) R ha rfl rfl rfl (fun o => { o with }) fun H' R' => ?_
 repeat trivial
 exact q H' R'
end
structure cm (H H' : MH) : Prop where
 le : H.next <= H'.next
 ins : ∀ c k, k < H.next -> H'.ins c k = H.ins c k
 lst : ∀ k, k < H.next -> H'.lst k = H.lst k
 dct : ∀ k, k < H.next -> H'.dct k = H.dct k
section
variable {H H' H'' : MH} {g : G} {t : Hid}
theorem cm.refl : cm H H := ⟨Nat.le_refl _, fun _ _ _ => rfl, fun _ _ => rfl, fun _ _ => rfl⟩
theorem cm.trans (a : cm H H') (b : cm H' H'') : cm H H'' :=
 ⟨Nat.le_trans a.le b.le, fun c k h => (b.ins c k (Nat.lt_of_lt_of_le h a.le)).trans (a.ins c k h), fun k h => (b.lst k (Nat.lt_of_lt_of_le h a.le)).trans (a.lst k h), fun k h => (b.dct k (Nat.lt_of_lt_of_le h a.le)).trans (a.dct k h)⟩
theorem bg.keep (R : bg g H t) (K : cm H H') : bg g H' t := R.off K.le (fun c k h _ _ _ => K.ins c k h) (fun k h => K.lst k (by
  cases q : t.tag k with
  | none => exact absurd q h
  | some x => exact R.tag _ _ q)) fun k h => K.dct k (by
  cases q : t.tag k with
  | none => exact absurd q h
  | some x => exact R.tag _ _ q)
theorem Rep.keep (R : Rep g H) (K : cm H H') : Rep g H' := by
 obtain ⟨t, R⟩ := R
 exact ⟨t, R.keep K⟩
theorem cm.newL {xs : List MV} (K : cm H H') : cm H (H'.putL H'.next xs).up :=
 ⟨Nat.le_succ_of_le K.le, K.ins, fun k h => (aD (by have := K.le; exact Nat.ne_of_lt (bu _ _ _ 0 (.a .x (.n 1)) .z .z .y (.a .x (.n 1)) .y rfl h this))).trans (K.lst k h), K.dct⟩
theorem cm.putL {k : Nat} {xs : List MV} (K : cm H H') (hk : H.next <= k) : cm H (H'.putL k xs) :=
 ⟨K.le, K.ins, fun j h => (aD (by exact Nat.ne_of_lt (bu _ _ _ 0 .z .y (.a .x (.n 1)) .z (.a .x (.n 1)) .y rfl hk h))).trans (K.lst j h), K.dct⟩
theorem bg.addL {k : Nat} {xs : List MV} (R : bg g H t) (h : t.tag k = none) (hk : k < H.next) (e : H.lst k = some xs) : bg (g.setL k xs) H (t.setT k .misc) where
 ent := R.ent
 ins := R.ins
 lst j ys q := by
  rcases aS q with ⟨rfl, rfl⟩ | ⟨a, b⟩
  ·exact ⟨ah, e⟩
  ·exact ⟨(af a).trans (R.lst _ _ b).1, (R.lst _ _ b).2⟩
 dct j d q := by
  have ne : j ≠ k := fun z => by have := (R.dct _ _ q).1; rw [z, h] at this; exact nos this
  exact ⟨(af ne).trans (R.dct _ _ q).1, (R.dct _ _ q).2⟩
 reg j r q := by
  refine ay fun X hX => ?_
  obtain ⟨a, b, c, d⟩ := R.reg j r q
  refine hX ?_
  refine ⟨a, b, c.congr fun a x ha ht => ?_, { d with }⟩
  have ne : a ≠ k := fun z => by rw [z, h] at ha; exact nos ha
  exact ⟨af ne, rfl, rfl⟩
 tag j x q := by
  rcases aS q with ⟨rfl, rfl⟩ | ⟨a, b⟩
  ·exact hk
  ·exact R.tag _ _ b
 used := R.used
 made := R.made
theorem Rep.keepL {k : Nat} {xs : List MV} (R : Rep g H) (K : cm H H') (h1 : H.next <= k) (h2 : k < H'.next) (e : H'.lst k = some xs) : Rep (g.setL k xs) H' /\ g.lst k = none := by
 obtain ⟨t, R⟩ := R
 exact ⟨⟨_, (R.keep K).addL (R.none_at h1).2.2.2.2.2 h2 e⟩, (R.none_at h1).2.2.2.1⟩
variable {α : Type}
theorem cy {k : Nat} {xs : List MV} {Q : Src × Nat -> MH -> Prop} (h : H.lst k = some xs) (hl : xs.length <= 10000) (q : ∀ s : Src × Nat, s.2 = xs.length + 1 -> (∀ H', H'.lst k = some xs -> s.1.Is H' xs) -> Q s H) : W (bw (.lst k)) H Q := by
 refine ⟨(.lst k, xs.length + 1), H, ?_, q _ rfl fun H' h' j => ?_⟩
 ·exact obS h (if_pos (decide_eq_true hl))
 ·show (match H'.lst k with
   | some xs => some xs[j]?
   | none => none) = _
  rw [h']
theorem bm {xs : List MV} {Q : Src × Nat -> MH -> Prop} (hl : xs.length <= 10000) (q : ∀ s : Src × Nat, s.2 = xs.length + 1 -> (∀ H', s.1.Is H' xs) -> Q s H) : W (bw (.fz xs)) H Q :=
 ⟨(.fix xs, xs.length + 1), H, if_pos (decide_eq_true hl), q _ rfl fun H' j => rfl⟩
theorem vD {xs : List MV} {Q : Src × Nat -> MH -> Prop} (hl : xs.length <= 10000) (q : ∀ s : Src × Nat, s.2 = xs.length + 1 -> (∀ H', s.1.Is H' xs) -> Q s H) : W (bw (.tup xs)) H Q :=
 ⟨(.fix xs, xs.length + 1), H, if_pos (decide_eq_true hl), q _ rfl fun H' j => rfl⟩
theorem eY {ys : List MV} {a b : M α} {Q : α -> MH -> Prop} (h : ys.length <= 10000) (q : W a H Q) : W (if aC ys then a else b) H Q := by
 rw [if_pos (show aC ys = true from decide_eq_true h)]; exact q
theorem bD {src : Src} {stepf : MV -> M (Option MV)} {n : Nat} {Q : List MV -> MH -> Prop} (ks : List α) (v : α -> MV) (f : α -> Option MV) (hn : n = (ks.map v).length + 1)
  (hs : src.Is H (ks.map v)) (step : ∀ e ∈ ks, W (stepf (v e)) H fun r H' => r = f e /\ H' = H) (done : Q (ks.filterMap f) H) : W (aH src stepf n 0) H Q := by
 refine fR (ks.map v) (fun j ys H' => H' = H /\ ys = (ks.take j).filterMap f) hn ⟨rfl, by simp⟩ (fun j ys H' p => by rw [p.1]; exact hs) (fun j x ys H' hv p => ?_) fun ys H' p => ?_
 ·obtain ⟨rfl, rfl⟩ := p
  rw [List.getElem?_map] at hv
  obtain ⟨e, he, rfl⟩ := Option.map_eq_some_iff.mp hv
  refine aI (step e (List.mem_of_getElem? he)) ?_
  rintro r H1 ⟨rfl, rfl⟩
  refine ⟨rfl, ?_⟩
  rw [List.take_add_one, he, List.filterMap_append]
  cases q : f e <;> simp [q]
 ·obtain ⟨rfl, rfl⟩ := p
  rw [List.length_map, List.take_length]; exact done
theorem qm (c : Nat -> Bool) : ∀ ks : List Nat, ks.filterMap (fun e => if c e then some (MV.ins 1 e) else none) = bn (ks.filter c) := by
 intro ks
 induction ks with
 | nil => rfl
 | cons e r ih =>
  cases q : c e
  ·rw [List.filterMap_cons_none (by simp [q]), List.filter_cons_of_neg (by simp [q]), ih]
  ·rw [List.filterMap_cons_some (b := MV.ins 1 e) (by simp [q]), List.filter_cons_of_pos q, ih]; rfl
theorem cO {src : Src} {stepf : MV -> M (Option MV)} {n : Nat} {Q : List MV -> MH -> Prop} (ks : List Nat) (c : Nat -> Bool) (hn : n = (bn ks).length + 1)
  (hs : src.Is H (bn ks)) (step : ∀ e ∈ ks, W (stepf (.ins 1 e)) H fun r H' => r = (if c e then some (MV.ins 1 e) else none) /\ H' = H) (done : Q (bn (ks.filter c)) H) : W (aH src stepf n 0) H Q :=
 bD ks (.ins 1) (fun e => if c e then some (MV.ins 1 e) else none) hn hs step (by rw [qm]; exact done)
theorem an (ks : List Nat) : (bn ks).length = ks.length := List.length_map _
theorem gU (x : Str) (es : List (Str × Nat)) : (sel x es).length <= es.length := List.length_filterMap_le _ _
theorem aR {x : Str} {es : List (Str × Nat)} {e : Nat} : e ∈ sel x es <-> (x, e) ∈ es := by
 unfold sel
 rw [List.mem_filterMap]
 constructor
 ·rintro ⟨⟨a, b⟩, h1, h2⟩
  simp only at h2
  by_cases q : a = x
  ·rw [if_pos q] at h2; obtain rfl := Option.some.inj h2; rw [<- q]; exact h1
  ·rw [if_neg q] at h2; exact nos h2
 ·intro h
  exact ⟨(x, e), h, by simp⟩
theorem fP {k : Nat} {d : MD} {m : Str} {Q : Unit -> MH -> Prop} (h : H.dct k = some d) (e : (decide (m = j7) || decide (m = bh)) = true) (q : Q () H) : W (eO m (.dct k)) H Q :=
 ⟨(), H, obS h (if_pos e), q⟩
theorem eE {k : Nat} {xs : List MV} {m : Str} {Q : Unit -> MH -> Prop} (h : H.lst k = some xs) (e : m = cG) (q : Q () H) : W (eO m (.lst k)) H Q :=
 ⟨(), H, obS h (if_pos e), q⟩
theorem kC {o s d : MV} : aM "get" o [s, d] = wS o s d := by kernel_rfl
theorem iC {o s d : MV} : aM "setdefault" o [s, d] = sF o s d := by kernel_rfl
theorem kD {o v : MV} : aM "append" o [v] = jM o v := by kernel_rfl
theorem br {β : Type} (f : α -> β) (x : Str) : ∀ l : List (Str × α), ad (l.map fun p => (p.1, f p.2)) x = (ad l x).map f := by
 intro l
 induction l with
 | nil => rfl
 | cons q r ih =>
  obtain ⟨a, v⟩ := q
  show (if x = a then some (f v) else ad (r.map fun p => (p.1, f p.2)) x) = (if x = a then some v else ad r x).map f
  by_cases e : x = a
  ·rw [if_pos e, if_pos e]; rfl
  ·rw [if_neg e, if_neg e, ih]
theorem el {k : Nat} {r : Rg} {x : Str} {Q : MV -> MH -> Prop} (R : bg g H t) (h : g.reg k = some r)
  (q : ∀ v, (∀ (Q : Src × Nat -> MH -> Prop), (∀ s : Src × Nat, s.2 = (bn (sel x r.es)).length + 1 -> (∀ H', cm H H' -> s.1.Is H' (bn (sel x r.es))) -> Q s H) -> W (bw v) H Q) -> Q v H) : W (aM "get" (.dct (t.prv k).kn) [.str x, .fz []]) H Q := by
 refine ay fun X hX => ?_
 obtain ⟨_, _, L, O⟩ := R.reg k r h
 have hl : (bn (sel x r.es)).length <= 10000 := by
  rw [an]
  have := gU x r.es
  have := O.esL
  have := R.used
  omega
 refine hX ?_
 rw [kC]
 cases e : ad (t.prv k).nls x with
 | none =>
  refine ⟨.fz [], H, ?_, q _ fun Q q => ?_⟩
  ·refine obS rfl (obS rfl (obS L.dn (obS rfl ?_)))
   change some ((ad ((t.prv k).nls.map fun p => (p.1, MV.lst p.2)) x).getD (.fz []), H) = _
   rw [br MV.lst, e]; rfl
  ·have z := L.no x e
   rw [z] at q
   exact bm (Nat.zero_le _) fun s a b => q s a fun H' _ => b H'
 | some kx =>
  refine ⟨.lst kx, H, ?_, q _ fun Q q => ?_⟩
  ·refine obS rfl (obS rfl (obS L.dn (obS rfl ?_)))
   change some ((ad ((t.prv k).nls.map fun p => (p.1, MV.lst p.2)) x).getD (.fz []), H) = _
   rw [br MV.lst, e]; rfl
  ·obtain ⟨z1, z2⟩ := L.nl x kx e
   exact cy z2 hl fun s a b => q s a fun H' K => b H' ((K.lst kx (R.tag _ _ z1)).trans z2)
theorem iY {k : Nat} {r : Rg} {x : Str} {e0 : Nat} {Q : MV -> MH -> Prop} (R : bg g H t) (h : g.reg k = some r) (he : (x, e0) ∈ r.es)
  (q : ∀ v, (∀ (Q : Src × Nat -> MH -> Prop), (∀ s : Src × Nat, s.2 = (bn (sel x r.es)).length + 1 -> (∀ H', cm H H' -> s.1.Is H' (bn (sel x r.es))) -> Q s H) -> W (bw v) H Q) -> Q v H) : W (aw (.dct (t.prv k).kn) (.str x)) H Q := by
 obtain ⟨_, _, L, O⟩ := R.reg k r h
 have hl : (bn (sel x r.es)).length <= 10000 := by
  rw [an]
  have := gU x r.es
  have := O.esL
  have := R.used
  omega
 cases e : ad (t.prv k).nls x with
 | none =>
  have z := L.no x e
  have := aR.mpr he
  rw [z] at this
  cases this
 | some kx =>
  refine ⟨.lst kx, H, ?_, q _ fun Q q => ?_⟩
  ·exact obS L.dn (obS rfl (obS (a := .lst kx) ((br MV.lst x _).trans (by rw [e]; rfl)) rfl))
  ·obtain ⟨z1, z2⟩ := L.nl x kx e
   exact cy z2 hl fun s a b => q s a fun H' K => b H' ((K.lst kx (R.tag _ _ z1)).trans z2)
noncomputable def G.e (g : G) (k : Nat) : Er := (g.ent k).getD er0
theorem G.e_of {k : Nat} {r : Er} (h : g.ent k = some r) : g.e k = r := by unfold G.e; rw [h]; rfl
noncomputable def o8 (g : G) (ks : List Nat) : Prop := ∀ e ∈ ks, g.ent e = some (g.e e)
theorem bg.ents {k : Nat} {r : Rg} (R : bg g H t) (h : g.reg k = some r) (x : Str) : o8 g (sel x r.es) := fun e he => by
 refine ay fun X hX => ?_
 obtain ⟨_, _, _, O⟩ := R.reg k r h
 obtain ⟨q, a, _⟩ := O.es _ (aR.mp he)
 refine hX ?_
 rw [a, G.e_of a]
theorem cw {H0 : MH} {xs : List MV} {Q : MV -> MH -> Prop} (K : cm H0 H) (h : ∀ k H', H0.next <= k -> H.next <= k -> k < H'.next -> cm H H' -> cm H0 H' -> H'.lst k = some xs -> Q (.lst k) H') : W (newL xs) H Q :=
 ⟨_, _, rfl, h H.next _ K.le (Nat.le_refl _) (Nat.lt_succ_self _) cm.refl.newL K.newL cr⟩
theorem oU {H0 : MH} {k : Nat} {xs : List MV} {v : MV} {Q : MV -> MH -> Prop} (K : cm H0 H) (h0 : H0.next <= k) (h : H.lst k = some xs) (hl : xs.length <= 10000) (q : ∀ H', cm H0 H' -> H'.next = H.next -> H'.lst k = some (xs ++ [v]) -> (∀ j, j ≠ k -> H'.lst j = H.lst j) -> Q .none H') : W (aM "append" (.lst k) [v]) H Q := by
 rw [kD]
 refine ⟨.none, H.putL k (xs ++ [v]), ?_, q _ (K.putL h0) rfl cr fun j hj => aD hj⟩
 exact obS rfl (obS h (if_pos (decide_eq_true hl)))
theorem rU {H0 : MH} {k : Nat} {xs ys : List MV} {Q : MV -> MH -> Prop} (K : cm H0 H) (h0 : H0.next <= k) (h : H.lst k = some xs) (hl : xs.length <= 10000) (hl' : ys.length <= 10000) (q : ∀ H', cm H0 H' -> H'.next = H.next -> H'.lst k = some (xs ++ ys) -> (∀ j, j ≠ k -> H'.lst j = H.lst j) -> Q (.lst k) H') : W (iT .Add (.lst k) (.fz ys)) H Q := by
 refine ⟨.lst k, H.putL k (xs ++ ys), ?_, q _ (K.putL h0) rfl cr fun j hj => aD hj⟩
 exact obS h (if_pos (Bool.and_eq_true_iff.mpr ⟨decide_eq_true hl, decide_eq_true hl'⟩))
end
section
variable {g : G} {H : MH} {t : Hid} {Q : MV -> MH -> Prop} {d : Nat}
theorem vC {v : MV} {xs : List MV} {Q : Src × Nat -> MH -> Prop} (h : mh H v = some xs) (hl : xs.length <= 10000) (q : ∀ s : Src × Nat, s.2 = xs.length + 1 -> s.1.Is H xs -> Q s H) : W (bw v) H Q := by
 cases v with
 | fz ys => obtain rfl := Option.some.inj h; exact bm hl fun s a b => q s a (b H)
 | lst k => exact cy h hl fun s a b => q s a (b H h)
 | _ => exact nos h
theorem cv {ks : List Nat} {j : Nat} {v : MV} (h : (bn ks)[j]? = some v) : ∃ k, ks[j]? = some k /\ v = .ins 1 k := by
 unfold bn at h
 rw [List.getElem?_map] at h
 obtain ⟨k, h1, h2⟩ := Option.map_eq_some_iff.mp h
 exact ⟨k, h1, h2.symm⟩
theorem qE {α : Type} {p : α -> Bool} {ks : List α} {j : Nat} {k : α} (h : ks[j]? = some k) : (ks.take (j + 1)).any p = ((ks.take j).any p || p k) := by
 rw [List.take_add_one, h, List.any_append]; simp
theorem lX {α : Type} {p : α -> Bool} {ks : List α} {j : Nat} {k : α} (h : ks[j]? = some k) (hp : p k = true) : ks.any p = true := List.any_eq_true.mpr ⟨k, List.mem_of_getElem? h, hp⟩
theorem jR {e : Nat} {re : Er} {inner : MV} {ks : List Nat} (R : Rep g H) (he : g.ent e = some re) (hk : o8 g ks) (hs : mh H inner = some (bn ks)) (hl : ks.length <= 10000) (q : Q (.bool (ks.any fun k => hom (g.e k) re)) H) : W (fn (d + 3) "is_hidden" [.ins 1 e, inner]) H Q := by
 rw [iu]
 repeat trivial
 refine vC hs (by rw [an]; exact hl) fun s hn hi => ?_
 refine gp (bn ks) (fun j ρ H' => H' = H /\ ad ρ "entity" = some (.ins 1 e) /\ ((ks.take j).any fun k => hom (g.e k) re) = false) hn ⟨rfl, rfl, rfl⟩ (fun j ρ H' p => by rw [p.1]; exact hi) (fun j v ρ H' hv p => ?_) fun ρ H' p => ?_
 ·obtain ⟨k, hk1, rfl⟩ := cv hv
  obtain ⟨rfl, hρ, ha⟩ := p
  have hk2 := hk k (List.mem_of_getElem? hk1)
  repeat trivial
  refine cN R hk2 he ?_
  repeat trivial
  refine dW (fun c => ?_) fun c => ?_
  ·repeat trivial
   rw [lX hk1 c] at q
   exact q
  ·repeat trivial
   exact ⟨rfl, hρ, by rw [qE hk1, ha, c]; rfl⟩
 ·obtain ⟨rfl, hρ, ha⟩ := p
  repeat trivial
  rw [an, List.take_length] at ha
  rw [ha] at q
  exact q
inductive bt (g : G) : Option Nat -> List (Nat × Rg) -> Prop
 | nil : bt g none []
 | cons {k : Nat} {r : Rg} {cs : List (Nat × Rg)} : g.reg k = some r -> bt g r.parent cs -> bt g (some k) ((k, r) :: cs)
theorem l8 {a : Nat} {rr : Rg} {o : Option Nat} {cs : List (Nat × Rg)} (R : Rep g H) (ha : g.reg a = some rr) (C : bt g o cs) (hl : cs.length < 20) (q : Q (.bool (cs.any fun c => decide (c.2.number = rr.number))) H) : W (fn (d + 2) "encloses" [.ins 2 a, ut o]) H Q := by
 rw [jn]
 repeat trivial
 refine hW (fun n ρ H' => H' = H /\ ad ρ "outer" = some (.ins 2 a) /\ ∃ o' cs', bt g o' cs' /\ cs'.length = n /\ ad ρ "here" = some (ut o') /\ (cs.any fun c => decide (c.2.number = rr.number)) = (cs'.any fun c => decide (c.2.number = rr.number))) (fun n ρ H' p => ?_) cs.length 20 _ H ⟨rfl, rfl, o, cs, C, rfl, rfl, rfl⟩ hl
 obtain ⟨rfl, h1, o', cs', C', hn, h2, h3⟩ := p
 repeat trivial
 cases C' with
 | nil =>
  refine ⟨fun e => (by cases e), fun _ => ?_⟩
  repeat trivial
  rw [h3] at q
  exact q
 | cons hk C2 =>
  refine ⟨fun _ => ⟨_, hn.symm, ?_⟩, fun e => by cases e⟩
  have h2 : ad ρ "here" = some (.ins 2 _) := h2
  repeat trivial
  refine dW (fun c => ?_) fun c => ?_
  ·repeat trivial
   rw [h3, List.any_cons, c] at q
   exact q
  ·repeat trivial
   refine ⟨rfl, h1, _, _, C2, rfl, rfl, ?_⟩
   rw [h3, List.any_cons, c]; rfl
theorem qF {k e hk : Nat} {r rh : Rg} {re : Er} (R : Rep g H) (h1 : g.reg k = some r) (h2 : g.ent e = some re) (h3 : re.home = some hk) (h4 : g.reg hk = some rh) (q : Q (.int (r.level - rh.level)) H) : W (fn (d + 2) "ups_to" [.ins 2 k, .ins 1 e]) H Q := by
 rw [mP]
 repeat trivial
 rw [h3]
 have lev : ∀ k r, g.reg k = some r -> 0 <= r.level /\ r.level <= 1000 := fun k r h => by
  obtain ⟨t, R⟩ := R
  obtain ⟨_, _, _, O⟩ := R.reg k r h
  have := O.lev1
  have := O.lev2
  have := R.used
  omega
 have h4' : g.reg hk = some rh := h4
 refine gL R h4 (fun _ => rfl) ?_
 repeat trivial
 have := lev _ _ h1
 have := lev _ _ h4
 refine vB (by omega) (by omega) ?_
 repeat trivial
end
section
variable {g : G} {H : MH} {t : Hid} {Q : MV -> MH -> Prop} {d : Nat}
theorem bt.reg {o : Option Nat} {cs : List (Nat × Rg)} (C : bt g o cs) : ∀ c ∈ cs, g.reg c.1 = some c.2 := by
 induction C with
 | nil => intro c h; cases h
 | cons h _ ih =>
  intro c hc
  rcases List.mem_cons.mp hc with e | e
  ·subst e; exact h
  ·exact ih c e
theorem Rep.selL {k : Nat} {r : Rg} (R : Rep g H) (h : g.reg k = some r) (x : Str) : (sel x r.es).length <= 1000 := by
 obtain ⟨t, R⟩ := R
 obtain ⟨_, _, _, O⟩ := R.reg k r h
 have := gU x r.es
 have := O.esL
 have := R.used
 omega
theorem bf {α : Type} (p : α -> Bool) (l : List α) : (l.filter p).length <= l.length := List.length_filter_le _ _
structure Aw (g : G) (H0 : MH) (e0 n : Nat) (cs : List (Nat × Rg)) (ρ : Rho) (H' : MH) : Prop where
 keep : cm H0 H'
 ex : ∃ kf ka fs as o cs', ad ρ "found" = some (.lst kf) /\ ad ρ "around" = some (.lst ka) /\ kf ≠ ka /\ (kf < H'.next /\ ka < H'.next) /\ H0.next <= kf /\ H0.next <= ka /\ H'.lst kf = some (bn fs) /\ H'.lst ka = some (bn as) /\ o8 g fs /\ o8 g as /\
  bt g o cs' /\ cs'.length = n /\ ad ρ "here" = some (ut o) /\ fs.length + 1000 * n <= 1000 * cs.length /\ as.length + 1000 * n <= 1000 * cs.length /\ ((cs' = cs /\ as = []) \/ e0 ∈ fs)
theorem jT {k e0 : Nat} {r : Rg} {x : Str} {cs : List (Nat × Rg)} (R : Rep g H) (C : bt g (some k) ((k, r) :: cs)) (hl : cs.length < 9) (he : e0 ∈ sel x r.es) (h1 : (g.e e0).ready = true) (h2 : (g.e e0).overridden = false)
  (q : ∀ H' kf ka fs as, cm H H' -> kf < H'.next -> ka < H'.next -> H'.lst kf = some (bn fs) -> H'.lst ka = some (bn as) -> o8 g fs -> o8 g as -> fs.length <= 10000 -> as.length <= 10000 -> e0 ∈ fs -> Q (.tup [.lst kf, .lst ka]) H') : W (fn (d + 4) "immediate_entities" [.ins 2 k, .str x]) H Q := by
 rw [cF]
 repeat trivial
 refine cw .refl fun kf H1 a1 _ a2 a3 _ a4 => ?_
 repeat trivial
 refine cw a3 fun ka H2 b1 b1' b2 b3 b3' b4 => ?_
 repeat trivial
 refine hW (fun n ρ H' => ad ρ "name" = some (.str x) /\ ad ρ cz = none /\ Aw g H e0 n ((k, r) :: cs) ρ H') (fun n ρ H' p => ?_) (cs.length + 1) 20 _ H2 ⟨rfl, rfl, b3', kf, ka, [], [], some k, (k, r) :: cs, rfl, rfl, (by exact Nat.ne_of_lt (bu _ _ _ 0 (.a .x (.n 1)) .z .z .y (.a .x (.n 1)) .y rfl a2 b1')), ⟨Nat.lt_of_lt_of_le a2 b3.le, b2⟩, a1, b1, (b3.lst kf a2).trans a4, b4, (fun _ h => by cases h), (fun _ h => by cases h), C, rfl, rfl, (by simp), (by simp), .inl ⟨rfl, rfl⟩⟩ (by exact aK _ 0 0 0 (.a .x (.n 1)) (.n 9) (.a (.a .x (.n 1)) (.n 1)) (.n 20) rfl hl)
 obtain ⟨hx, hd, K, kf, ka, fs, as, o, cs', f1, f2, f3, f3', f4, f5, f6, f7, f8, f9, C', f10, f11, f12, f13, f14⟩ := p
 have R' := R.keep K
 have lb : ((k, r) :: cs).length <= 9 := by simp; exact aK _ 0 0 0 (.a .x (.n 1)) (.n 9) .x (.n 8) rfl hl
 repeat trivial
 cases C' with
 | nil =>
  refine ⟨fun e => (by cases e), fun _ => ?_⟩
  repeat trivial
  refine q H' kf ka fs as K f3'.1 f3'.2 f6 f7 f8 f9 (by exact bu _ _ _ 0 (.a .x (.m 1000 .y)) (.m 1000 .z) (.m 1000 .z) (.m 1000 (.n 9)) .x (.n 10000) rfl f12 (Nat.mul_le_mul_left 1000 lb)) (by exact bu _ _ _ 0 (.a .x (.m 1000 .y)) (.m 1000 .z) (.m 1000 .z) (.m 1000 (.n 9)) .x (.n 10000) rfl f13 (Nat.mul_le_mul_left 1000 lb)) ?_
  rcases f14 with ⟨z, _⟩ | z
  ·cases z
  ·exact z
 | @cons k1 r1 cs1 hk C2 =>
  refine ⟨fun _ => ⟨_, f10.symm, ?_⟩, fun e => (by cases e)⟩
  have h2' : ad ρ "here" = some (.ins 2 k1) := f11
  obtain ⟨t, RT⟩ := R'
  have R' : Rep g H' := ⟨t, RT⟩
  repeat trivial
  refine fP (RT.reg _ _ hk).2.2.1.dn rfl ?_
  repeat trivial
  refine el RT hk fun v hv => ?_
  repeat trivial
  refine hv _ fun s hn hi => ?_
  repeat trivial
  have hE := RT.ents hk x
  refine cO (sel x r1.es) (fun e => !(g.e e).overridden) hn (hi H' .refl) (fun e he => ?_) ?_
  ·have he' := hE e he
   repeat trivial
   cases (g.e e).overridden
   ·repeat trivial
   ·repeat trivial
  have hL := R'.selL hk x
  have hL2 := bf (fun e => !(g.e e).overridden) (sel x r1.es)
  have hE2 : o8 g ((sel x r1.es).filter fun e => !(g.e e).overridden) := fun e he => hE e (List.mem_filter.mp he).1
  refine eY (by rw [an]; exact leA (leT (by assumption) (by assumption)) rfl) ?_
  repeat trivial
  refine bm (by rw [an]; exact leA (leT (by assumption) (by assumption)) rfl) fun s2 hn2 hi2 => ?_
  repeat trivial
  refine cO ((sel x r1.es).filter fun e => !(g.e e).overridden) (fun e => (g.e e).ready && !(as.any fun k => hom (g.e k) (g.e e))) hn2 (hi2 H') (fun e he => ?_) ?_
  ·have he' := hE2 e he
   repeat trivial
   cases c : (g.e e).ready
   ·repeat trivial
   ·repeat trivial
    refine jR R' he' f9 f7 (by exact bu _ _ _ 0 (.a .x (.m 1000 .y)) (.m 1000 .z) (.m 1000 .z) (.m 1000 (.n 9)) .x (.n 10000) rfl f13 (Nat.mul_le_mul_left 1000 lb)) ?_
    repeat trivial
    cases as.any fun k => hom (g.e k) (g.e e)
    ·repeat trivial
    ·repeat trivial
  have hL3 := bf (fun e => (g.e e).ready && !(as.any fun k => hom (g.e k) (g.e e))) ((sel x r1.es).filter fun e => !(g.e e).overridden)
  refine eY (by rw [an]; exact gk _ _ _ 0 .y (.n 1000) .z .y .x .z .x (.n 10000) rfl hL hL2 hL3) ?_
  repeat trivial
  refine rU K f4 f6 (by rw [an]; exact bu _ _ _ 0 (.a .x (.m 1000 .y)) (.m 1000 .z) (.m 1000 .z) (.m 1000 (.n 9)) .x (.n 10000) rfl f12 (Nat.mul_le_mul_left 1000 lb)) (by rw [an]; exact gk _ _ _ 0 .y (.n 1000) .z .y .x .z .x (.n 10000) rfl hL hL2 hL3) fun H3 K3 n3 l3 o3 => ?_
  repeat trivial
  refine rU K3 f5 ((o3 ka (Ne.symm f3)).trans f7) (by rw [an]; exact bu _ _ _ 0 (.a .x (.m 1000 .y)) (.m 1000 .z) (.m 1000 .z) (.m 1000 (.n 9)) .x (.n 10000) rfl f13 (Nat.mul_le_mul_left 1000 lb)) (by rw [an]; exact bu _ _ 0 0 .y (.n 1000) .x .y .x (.n 10000) rfl hL hL2) fun H4 K4 n4 l4 o4 => ?_
  have R4 := R.keep K4
  repeat trivial
  have e1 : ∀ a b : List Nat, bn a ++ bn b = bn (a ++ b) := fun a b => List.map_append.symm
  refine ⟨hx, hd, K4, kf, ka, _, _, _, _, rfl, rfl, f3, ⟨by exact gk _ _ _ _ (.a .x (.n 1)) .z .z .w .w .y (.a .x (.n 1)) .y rfl f3'.1 (geE n3) (geE n4), by exact gk _ _ _ _ (.a .x (.n 1)) .z .z .w .w .y (.a .x (.n 1)) .y rfl f3'.2 (geE n3) (geE n4)⟩, f4, f5, (o4 kf f3).trans (l3.trans (by rw [e1])), l4.trans (by rw [e1]), ?_, ?_, C2, rfl, rfl, ?_, ?_, .inr ?_⟩
  ·intro e he
   rcases List.mem_append.mp he with z | z
   ·exact f8 e z
   ·exact hE2 e (List.mem_filter.mp z).1
  ·intro e he
   rcases List.mem_append.mp he with z | z
   ·exact f9 e z
   ·exact hE2 e z
  ·simp only [List.length_append, List.length_cons] at *
   omega
  ·simp only [List.length_append, List.length_cons] at *
   omega
  ·rcases f14 with ⟨z1, z2⟩ | z
   ·cases z1
    subst z2
    refine List.mem_append_right _ (List.mem_filter.mpr ⟨List.mem_filter.mpr ⟨he, ?_⟩, ?_⟩)
    ·rw [h2]; rfl
    ·rw [h1]; rfl
   ·exact List.mem_append_left _ z
end
section
variable {g : G} {H : MH} {t : Hid} {Q : MV -> MH -> Prop} {d : Nat}
theorem ia {src : Src} {body : MV -> Rho -> M (Fl × Rho)} {n : Nat} {ρ : Rho} {Q : Fl × Rho -> MH -> Prop} (hn : n = 1) (h : src.Is H []) (q : Q (.next, ρ) H) : W (ba src body n 0 ρ) H Q := by
 subst hn
 exact ⟨_, _, kI (h 0), q⟩
structure yU (g : G) (H0 : MH) (n : Nat) (ρ : Rho) (H' : MH) : Prop where
 keep : cm H0 H'
 ex : ∃ kf o cs', ad ρ "found" = some (.lst kf) /\ kf < H'.next /\ H'.lst kf = some [] /\ bt g o cs' /\ cs'.length = n /\ ad ρ "here" = some (ut o)
theorem oE {k : Nat} {x : Str} {cs : List (Nat × Rg)} (R : Rep g H) (C : bt g (some k) cs) (hl : cs.length < 19)
  (q : ∀ H' kf, cm H H' -> H'.lst kf = some [] -> Q (.lst kf) H') : W (fn (d + 6) "offered_entities" [.ins 2 k, .str x]) H Q := by
 rw [dj]
 repeat trivial
 refine cw .refl fun kf H1 a1 _ a2 a3 _ a4 => ?_
 repeat trivial
 refine hW (fun n ρ H' => yU g H n ρ H') (fun n ρ H' p => ?_) cs.length 20 _ H1 ⟨a3, kf, some k, cs, rfl, a2, a4, C, rfl, rfl⟩ (by exact leA (by assumption) rfl)
 obtain ⟨K, kf, o, cs', f1, f2, f3, C', f4, f5⟩ := p
 repeat trivial
 cases C' with
 | nil =>
  refine ⟨fun e => (by cases e), fun _ => ?_⟩
  repeat trivial
  exact q H' kf K f3
 | @cons k1 r1 cs1 hk C2 =>
  refine ⟨fun _ => ⟨_, f4.symm, ?_⟩, fun e => (by cases e)⟩
  have f5 : ad ρ "here" = some (.ins 2 k1) := f5
  repeat trivial
  refine cw K fun kr H2 b0 b1 b2 b3 b4 b5 => ?_
  obtain ⟨t, RT⟩ := R.keep b4
  have R' : Rep g H2 := ⟨t, RT⟩
  have L := (RT.reg _ _ hk).2.2.1
  repeat trivial
  refine cy L.lu (Nat.zero_le _) fun s hn hi => ?_
  repeat trivial
  refine ia hn (hi _ L.lu) ?_
  repeat trivial
  refine cy L.lt (Nat.zero_le _) fun s hn hi => ?_
  repeat trivial
  refine ia hn (hi _ L.lt) ?_
  repeat trivial
  refine cy b5 (Nat.zero_le _) fun s hn hi => ?_
  repeat trivial
  refine ia hn (hi _ b5) ?_
  repeat trivial
  exact ⟨b4, kf, _, _, f1, Nat.lt_of_lt_of_le f2 b3.le, (b3.lst kf f2).trans f3, C2, rfl, rfl⟩
theorem lY {a b : MV} {x y : Str} {ρ : Rho} {Q : Rho -> MH -> Prop} (q : Q ((y, b) :: (x, a) :: ρ) H) : W (unN (.tup [a, b]) [x, y] ρ) H Q := ⟨_, _, rfl, q⟩
theorem vP {k : Nat} {xs : List MV} (h : H.lst k = some xs) (hl : xs.length <= 10000) (q : Q (.int xs.length) H) : W (aG "len" [.lst k]) H Q := by
 have e : aG "len" [.lst k] = uv (.lst k) := by kernel_rfl
 rw [e]
 refine ⟨_, _, ?_, q⟩
 exact obS h (if_pos (decide_eq_true hl))
theorem wj {k : Nat} {xs ys : List MV} (h : H.lst k = some xs) (hl : xs.length <= 10000) (hl' : ys.length <= 10000) (q : Q (.fz (xs ++ ys)) H) : W (dz .Add (.lst k) (.fz ys)) H Q := by
 refine ⟨_, _, ?_, q⟩
 exact obS h (obS rfl (if_pos (Bool.and_eq_true_iff.mpr ⟨decide_eq_true hl, decide_eq_true hl'⟩)))
theorem qP {k e0 : Nat} {r : Rg} {x : Str} {cs : List (Nat × Rg)} (R : Rep g H) (C : bt g (some k) ((k, r) :: cs)) (hl : cs.length < 9) (he : e0 ∈ sel x r.es) (h1 : (g.e e0).ready = true) (h2 : (g.e e0).overridden = false)
  (q : ∀ H' fs, cm H H' -> o8 g fs -> fs.length <= 10000 -> e0 ∈ fs -> Q (.fz (bn fs)) H') : W (fn (d + 7) "look_up" [.ins 2 k, .str x]) H Q := by
 rw [lh]
 repeat trivial
 refine jT R C hl he h1 h2 fun H1 kf ka fs as K1 kf1 ka1 f1 a1 f2 a2 fl al f4 => ?_
 repeat trivial
 refine lY ?_
 repeat trivial
 refine oE (R.keep K1) C (by simp; exact aK _ 0 0 0 (.a .x (.n 1)) (.n 9) (.a (.a .x (.n 1)) (.n 1)) (.n 19) rfl hl) fun H2 ko K2 o1 => ?_
 repeat trivial
 refine vP o1 (Nat.zero_le _) ?_
 repeat trivial
 have f1' : H2.lst kf = some (bn fs) := (K2.lst kf kf1).trans f1
 refine cy o1 (Nat.zero_le _) fun s hn hi => ?_
 repeat trivial
 refine cO [] (fun _ => true) hn (hi _ o1) (fun e he => nomatch he) ?_
 refine eY (Nat.zero_le _) ?_
 repeat trivial
 refine wj f1' (by rw [an]; exact fl) (Nat.zero_le _) ?_
 repeat trivial
 rw [show bn fs ++ bn (List.filter (fun _ => true) []) = bn fs from List.append_nil _]
 exact q H2 fs (K1.trans K2) f2 fl f4
end
section
variable {g : G} {H : MH} {t : Hid} {Q : MV -> MH -> Prop} {d : Nat}
theorem iX {xs : List MV} {Q : Bool -> MH -> Prop} (hl : xs.length <= 10000) (q : Q xs.isEmpty H) : W (nt (.fz xs)) H Q := ⟨_, _, if_pos (decide_eq_true hl), q⟩
theorem i6 {a b : Str} (ha : a ∈ PTs) (hb : b ∈ PTs) (q : Q (.bool (decide (a = b))) H) : W (az .Eq (.str a) (.str b)) H Q := gq (lB _ ha) (lB _ hb) q
theorem vM {a b : Str} (ha : a ∈ PTs) (hb : b ∈ PTs) (q : Q (.bool (!decide (a = b))) H) : W (az .NotEq (.str a) (.str b)) H Q := oG (lB _ ha) (lB _ hb) q
theorem tj {x : Str} {ss : List Str} (hx : PyData.strOk x = true) (hs : ∀ s ∈ ss, PyData.strOk s = true) : ∃ b, inM (.str x) (.fz (ss.map .str)) H = some (b, H) := by
 have pdS : ∀ ss : List Str, bo (pd 5 H) (ss.map .str) = some (ss.map .str) := by
  intro ss
  induction ss with
  | nil => rfl
  | cons a r ih => exact aL rfl ih
 have lay : ∀ ss : List Str, (∀ s ∈ ss, PyData.strOk s = true) -> PyData.canLayAll0 (ss.map .str) = true := by
  intro ss
  induction ss with
  | nil => intro _; simp [PyData.canLayAll0]
  | cons a r ih => intro h; simp [PyData.canLayAll0, PyData.canLay0, h a (List.mem_cons_self ..), ih fun s hs => h s (List.mem_cons_of_mem _ hs)]
 have dep : ∀ ss : List Str, PyData.depthAll (ss.map .str) = 0 := by
  intro ss
  induction ss with
  | nil => simp [PyData.depthAll]
  | cons a r ih => simp [PyData.depthAll, PyData.depth, ih]
 have e2 : pd 6 H (.fz (ss.map .str)) = some (.list (ss.map .str)) := lD (pdS ss)
 refine ⟨_, obS (a := .str x) rfl (obS e2 (obS (a := ss.map .str) rfl (if_pos ?_)))⟩
 simp [SeqAt.shaped, PyData.canLay0, hx, lay ss hs, PyData.depth, dep]
theorem qM {x : Str} {ss : List Str} (hx : PyData.strOk x = true) (hs : ∀ s ∈ ss, PyData.strOk s = true) (q : ∀ b, Q (.bool b) H) : W (az .NotIn (.str x) (.fz (ss.map .str))) H Q := by
 obtain ⟨b, e⟩ := tj (H := H) hx hs
 exact ⟨_, _, (tl e rfl rfl).2, q _⟩
theorem pV {α : Type} {xs : List α} (h : xs ≠ []) : nth xs (-1) = some (xs.getLast h) := by
 have hp : 0 < xs.length := List.length_pos_iff.mpr h
 unfold nth
 rw [if_neg (by decide), if_pos (by omega), List.getLast_eq_getElem, <- List.getElem?_eq_getElem]
 congr 1
 omega
theorem vU {ns : List Int} (h : ns ≠ []) (hl : ns.length <= 10000) (q : ∀ n, Q (.int n) H) : W (aw (.fz (ns.map .int)) (.int (-1))) H Q := by
 have hm : ns.map MV.int ≠ [] := fun e => h (List.map_eq_nil_iff.mp e)
 refine ⟨.int (ns.getLast h), H, ?_, q _⟩
 have z : aC (ns.map MV.int) = true := decide_eq_true (by rw [List.length_map]; exact hl)
 exact (if_pos (by rw [z]; decide)).trans (obS ((pV hm).trans (by rw [List.getLast_map])) rfl)
theorem hI {α β γ : Type} (c : α -> Bool) (f : α -> β) (F : β -> γ) : ∀ l : List α, l.filterMap (fun o => if c o then some (F (f o)) else none) = ((l.filter c).map f).map F := by
 intro l
 induction l with
 | nil => rfl
 | cons a l ih =>
  cases q : c a
  ·rw [List.filterMap_cons_none (by simp [q]), List.filter_cons_of_neg (by simp [q]), ih]
  ·rw [List.filterMap_cons_some (b := F (f a)) (by simp [q]), List.filter_cons_of_pos q, ih]; rfl
theorem iU {k e : Nat} {r : Rg} {re : Er} (R : Rep g H) (hk : g.reg k = some r) (he : g.ent e = some re) (hm : (re.name, e) ∈ r.es) (q : ∀ b, Q (.bool b) H) : W (fn (d + 3) "stays_shown" [.ins 2 k, .ins 1 e]) H Q := by
 have hp := (R.eok he).part
 have vis : ("visible" : Str) ∈ PTs := by decide +kernel
 rw [gc]
 repeat trivial
 refine vM hp vis ?_
 repeat trivial
 refine mf (fun c1 => ?_) fun _ => ?_
 case refine_2 =>
  repeat trivial
  exact q _
 have c1 : re.part = "visible" := by simpa using c1
 repeat trivial
 refine mf (fun _ => ?_) fun _ => ?_
 case refine_2 =>
  repeat trivial
  exact q _
 repeat trivial
 refine mf (fun _ => ?_) fun _ => ?_
 case refine_2 =>
  repeat trivial
  exact q _
 repeat trivial
 obtain ⟨t, RT⟩ := R
 have R : Rep g H := ⟨t, RT⟩
 repeat trivial
 refine iY RT hk hm fun v hv => ?_
 repeat trivial
 refine hv _ fun s hn hi => ?_
 repeat trivial
 have hE := RT.ents hk re.name
 have hL := R.selL hk re.name
 refine cO (sel re.name r.es) (fun o => hom (g.e o) re) hn (hi H .refl) (fun o ho => ?_) ?_
 ·have ho' := hE o ho
  repeat trivial
  refine cN R ho' he ?_
  repeat trivial
  cases hom (g.e o) re
  ·repeat trivial
  ·repeat trivial
 generalize hrow : (sel re.name r.es).filter (fun o => hom (g.e o) re) = row
 have hE2 : o8 g row := by
  subst hrow
  exact fun o ho => hE o (List.mem_filter.mp ho).1
 have hL2 : row.length <= 1000 := by
  subst hrow
  exact Nat.le_trans (bf _ _) hL
 have self : e ∈ row := by
  subst hrow
  refine List.mem_filter.mpr ⟨aR.mpr hm, ?_⟩
  rw [G.e_of he]
  unfold hom
  simp
 refine eY (by rw [an]; exact leA (by assumption) rfl) ?_
 repeat trivial
 refine bm (by rw [an]; exact leA (by assumption) rfl) fun s1 hn1 hi1 => ?_
 repeat trivial
 refine bD row (.ins 1) (fun o => if !(g.e o).overridden then some (.str (g.e o).part) else none) hn1 (hi1 H) (fun o ho => ?_) ?_
 ·have ho' := hE2 o ho
  repeat trivial
  cases (g.e o).overridden
  ·repeat trivial
  ·repeat trivial
 have pl : ∀ (f : Nat -> Option MV), (row.filterMap f).length <= 10000 := fun f => Nat.le_trans (List.length_filterMap_le _ _) (by exact leA (by assumption) rfl)
 refine eY (pl _) ?_
 repeat trivial
 refine bm (by rw [an]; exact leA (by assumption) rfl) fun s2 hn2 hi2 => ?_
 repeat trivial
 refine bD row (.ins 1) (fun o => if decide ((g.e o).part = "visible") then some (.int (g.e o).number) else none) hn2 (hi2 H) (fun o ho => ?_) ?_
 ·have ho' := hE2 o ho
  repeat trivial
  refine i6 (R.eok ho').part vis ?_
  repeat trivial
  cases decide ((g.e o).part = "visible")
  ·repeat trivial
  ·repeat trivial
 refine eY (pl _) ?_
 repeat trivial
 rw [hI (fun o => decide ((g.e o).part = "visible")) (fun o => (g.e o).number) MV.int]
 refine vU (fun z => ?_) (by rw [List.length_map]; exact Nat.le_trans (bf _ _) (by exact leA (by assumption) rfl)) fun n => ?_
 ·have : e ∈ row.filter fun o => decide ((g.e o).part = "visible") := List.mem_filter.mpr ⟨self, by rw [G.e_of he]; exact decide_eq_true c1⟩
  rw [List.map_eq_nil_iff.mp z] at this
  cases this
 repeat trivial
 refine iX (pl _) ?_
 repeat trivial
 refine wx (fun _ => ?_) fun _ => ?_
 case refine_2 =>
  repeat trivial
  exact q _
 repeat trivial
 rw [hI (fun o => !(g.e o).overridden) (fun o => (g.e o).part) MV.str]
 refine qM (lB _ vis) (fun s hs => ?_) fun b => ?_
 ·obtain ⟨o, ho, rfl⟩ := List.mem_map.mp hs
  exact lB _ (R.eok (hE2 o (List.mem_filter.mp ho).1)).part
 repeat trivial
 refine wx (fun _ => ?_) fun _ => ?_
 case refine_2 =>
  repeat trivial
  exact q _
 repeat trivial
 exact q _
end
section
variable {g : G} {H : MH} {t : Hid} {Q : MV -> MH -> Prop} {d k : Nat}
theorem tO {c : Nat} {fs : aY} {xs : List MV} (B : Bld c k fs g H) (h : ∀ k' H', Bld c k fs g H' -> Q (.lst k') H') : W (newL xs) H Q :=
 hZ B fun k' H' a b B' => h k' H' (B'.dropL a)
theorem fO {c : Nat} {fs : aY} {xs : MD} (B : Bld c k fs g H) (h : ∀ k' H', Bld c k fs g H' -> Q (.dct k') H') : W (newD xs) H Q :=
 ek B fun k' H' a b B' => h k' H' (B'.dropD b)
inductive oY : aY -> Str × MV -> aY -> Prop
 | nil {p : Str × MV} : oY [] p [p]
 | cons {a p : Str × MV} {l l' : aY} : oY l p l' -> oY (a :: l) p (a :: l')
theorem oY.put {fs fs' : aY} {n : Str} {v : MV} (h : oY fs (n, v) fs') : ad fs n = none -> putS n v fs = fs' := by
 intro e
 generalize hp : (n, v) = p at h
 induction h with
 | nil => subst hp; rfl
 | @cons a p l l' h ih =>
  obtain ⟨m, w⟩ := a
  have e : (if n = m then some w else ad l n) = none := e
  by_cases q : n = m
  ·rw [if_pos q] at e; cases e
  ·rw [if_neg q] at e
   show (if n = m then (m, v) :: l else (m, w) :: putS n v l) = _
   rw [if_neg q, ih e hp]
theorem vF {c : Nat} {fs fs' : aY} {n : Str} {v : MV} {Q : Unit -> MH -> Prop} (B : Bld c k fs g H) (ok : (okN c n && (ad fs n).isNone) = true) (hl : Nat.ble fs.length 500 = true) (e : oY fs (n, v) fs') (h : ∀ H', Bld c k fs' g H' -> Q () H') : W (ar P0.okF (.ins c k) n v) H Q :=
 oB B (Bool.and_eq_true_iff.mp ok).1 (Nat.le_of_ble_eq_true hl) (e.put (Option.isNone_iff_eq_none.mp (Bool.and_eq_true_iff.mp ok).2)) h
noncomputable def mkE (c : Nat) (m : MV -> M MV) : M MV := aa (newI c) fun x => aa (m x) fun r => match r with
 | .none => ac x
 | _ => ai
theorem rO {c : Nat} {m : MV -> M MV} (R : Rep g H) (h : ∀ k H', Bld c k [] g H' -> W (m (.ins c k)) H' fun v H'' => v = .none /\ Q (.ins c k) H'') : W (mkE c m) H Q := by
 refine aB (vL R fun k H' B => aB (aI (h k H' B) ?_))
 rintro v H'' ⟨rfl, q⟩
 exact bZ q
theorem lO (a b : MV) : fn (d + 2) "Subtype" [a, b] = mkE 4 fun x => dP (d + 2) "Subtype" [x, a, b] := by kernel_rfl
theorem vf (a : MV) : fn (d + 2) "Sub" [a] = mkE 0 fun x => dP (d + 2) "Sub" [x, a] := by kernel_rfl
theorem nR (a b c e f h : MV) : fn (d + 2) "Entity" [a, b, c, e, f, h] = mkE 1 fun x => dP (d + 2) "Entity" [x, a, b, c, e, f, h] := by kernel_rfl
theorem iK (a b c : MV) : fn (d + 2) "Region" [a, b, c] = mkE 2 fun x => dP (d + 2) "Region" [x, a, b, c] := by kernel_rfl
theorem tA (a b : MV) : fn (d + 2) "Type" [a, b] = mkE 3 fun x => dP (d + 2) "Type" [x, a, b] := by kernel_rfl
theorem ql (a b c e : MV) : fn (d + 2) "Scope" [a, b, c, e] = mkE 5 fun x => dP (d + 2) "Scope" [x, a, b, c, e] := by kernel_rfl
theorem nQ : fn (d + 2) "Limits" [] = mkE 6 fun x => dP (d + 2) "Limits" [x, .int 32, .int 1000000, .int 50, .int 10000, .int 100000, .int 50, .int 1000000] := by kernel_rfl
end
local macro_rules | `(tactic| trivial) => `(tactic| first
 | ((with_reducible apply vF); assumption; kernel_rfl; kernel_rfl; (repeat (first | exact oY.nil | with_reducible apply oY.cons)); intro _ _))
section
local macro_rules | `(tactic| trivial) => `(tactic| first
 | ((with_reducible apply tO); assumption; intro _ _ _))
section
local macro_rules | `(tactic| trivial) => `(tactic| first
 | ((with_reducible apply fO); assumption; intro _ _ _))
section
variable {g : G} {H : MH} {t : Hid} {Q : MV -> MH -> Prop} {d k : Nat}
set_option tactic.hygienic true in
theorem fV {kt : Nat} {c : MV} (R : Rep g H) (q : ∀ k H', g.ins 4 k = none -> Rep (g.setI 4 k (StF kt c)) H' -> Q (.ins 4 k) H') : W (fn (d + 2) "Subtype" [.ins 3 kt, c]) H Q := by
 rw [lO]
 refine rO R fun k H' B => ?_
 rw [lr]
 have fr := B.ins 4
 repeat trivial
 rename_i B2
 exact ⟨rfl, q k _ fr (B2.addI (by decide) (by decide) (wm _ _))⟩
set_option tactic.hygienic true in
theorem wk {x : Str} (R : Rep g H) (q : ∀ k H' r, g.ins 0 k = none -> r.name = x -> Rep (g.setI 0 k (SF r)) H' -> Q (.ins 0 k) H') : W (fn (d + 2) "Sub" [.str x]) H Q := by
 rw [vf]
 refine rO R fun k H' B => ?_
 rw [uL]
 have fr := B.ins 0
 repeat trivial
 rename_i B2
 exact ⟨rfl, q k _ ⟨x, _, _, _, _, _, _⟩ fr rfl (B2.addI (by decide) (by decide) (oZ ⟨x, _, _, _, _, _, _⟩))⟩
noncomputable def newE (kind x : Str) (key : Option (List Int × Int)) (st dt ln : MV) : Er := ⟨kind, x, key, st, dt, ln, 0, "", none, "", .none, .none, false, false, false, false, false⟩
set_option tactic.hygienic true in
theorem eZ {kind x : Str} {key : Option (List Int × Int)} {st dt ln : MV} (hk : kind ∈ EKs) (hx : x ∈ NMs) (R : Rep g H) (q : ∀ k H', g.ent k = none -> Rep (g.setE k (newE kind x key st dt ln)) H' -> Q (.ins 1 k) H') : W (fn (d + 2) "Entity" [.str kind, .str x, qe key, st, dt, ln]) H Q := by
 rw [nR]
 refine rO R fun k H' B => ?_
 rw [mS]
 have fr := B.ent
 repeat trivial
 rename_i B2
 refine ⟨rfl, q k _ fr (Bld.addE (r := (newE kind x key st dt ln)) B2 ⟨hk, hx, ?_, ?_⟩)⟩
 ·exact List.mem_cons_self ..
 ·show PyData.strOk "" = true
  decide +kernel
end
end
section
variable {g : G} {H : MH} {t : Hid} {Q : MV -> MH -> Prop} {d k : Nat}
theorem tV {c c' k' : Nat} {fs fs' : aY} {n : Str} {v : MV} {Q : MV -> MH -> Prop} (B : Bld c k fs g H) (h : g.ins c' k' = some fs') (e : ad fs' n = some v) (q : Q v H) : W (am P0.okF (.ins c' k') n) H Q := rS B.rep h e q
theorem vE {c : Nat} {fs : aY} {n : Str} {v : MV} {Q : Unit -> MH -> Prop} (B : Bld c k fs g H) (ok : okN c n = true) (hl : fs.length <= 500) (h : ∀ H', Bld c k (putS n v fs) g H' -> Q () H') : W (ar P0.okF (.ins c k) n v) H Q := oB B ok hl rfl h
theorem Bld.cast {c : Nat} {fs fs' : aY} (B : Bld c k fs g H) (e : fs = fs') : Bld c k fs' g H := e ▸ B
end
section
variable {g : G} {H : MH} {t : Hid} {Q : MV -> MH -> Prop} {d k : Nat}
set_option tactic.hygienic true in
theorem oW {a b : MV} (R : Rep g H) (q : ∀ k ko H' r, g.ins 3 k = none -> g.dct ko = none -> r.number = 0 -> r.parent = .none -> r.tagged = false -> r.operations = .dct ko -> Bld 3 k (TF r) (g.setD ko (.s [])) H' -> Q (.ins 3 k) H') : W (fn (d + 2) "Type" [a, b]) H Q := by
 rw [tA]
 refine rO R fun k H' B => ?_
 rw [sD]
 have fr := B.ins 3
 repeat trivial
 rename_i B2
 refine ek B2 fun ko H3 h3 h3' B3 => ?_
 repeat trivial
 rename_i B4
 exact ⟨rfl, q k ko _ ⟨a, b, 0, .none, .none, .none, _, _, _, _, _, _, _, _, _, _, false, _, _, _, _, _, _, .dct ko⟩ fr h3' rfl rfl rfl rfl B4⟩
set_option tactic.hygienic true in
theorem ug {kp : Nat} {a b c : MV} (R : Rep g H) (q : ∀ k H' r, r.place = kp -> Rep (g.setI 5 k (ScF r)) H' -> g.ins 5 k = none -> Q (.ins 5 k) H') : W (fn (d + 2) "Scope" [.ins 2 kp, a, .none, b]) H Q := by
 rw [ql]
 refine rO R fun k H' B => ?_
 rw [pG]
 have fr := B.ins 5
 repeat trivial
 rename_i B2
 refine fO B2 fun _ _ B3 => ?_
 repeat trivial
 rename_i B2
 refine fO B2 fun _ _ B3 => ?_
 repeat trivial
 rename_i B2
 refine fO B2 fun _ _ B3 => ?_
 repeat trivial
 rename_i B2
 refine fO B2 fun _ _ B3 => ?_
 repeat trivial
 rename_i B2
 exact ⟨rfl, q k _ ⟨kp, a, b, _, _, _, _⟩ rfl (B2.addI (by decide) (by decide) (rV ⟨kp, a, b, _, _, _, _⟩)) fr⟩
set_option tactic.hygienic true in
theorem qU (R : Rep g H) (q : ∀ k H', Rep g H' -> Q (.ins 6 k) H') : W (fn (d + 2) "Limits" []) H Q := by
 rw [nQ]
 refine rO R fun k H' B => ?_
 rw [mR]
 repeat trivial
 rename_i B2
 exact ⟨rfl, q k _ B2.rep⟩
end
section
local macro_rules | `(tactic| trivial) => `(tactic| first
 | ((with_reducible apply tV); assumption; assumption; rfl)
 | ((with_reducible apply vE); assumption; kernel_rfl; exact Nat.le_of_ble_eq_true (by kernel_rfl); intro _ _))
section
variable {g : G} {H : MH} {t : Hid} {Q : MV -> MH -> Prop} {d k : Nat}
inductive Ty (g : G) (k : Nat) (n : Int) (p : MV) : Prop
 | mk (r ko) (h1 : g.ins 3 k = some (TF r)) (h2 : r.number = n) (h3 : r.parent = p) (h4 : r.tagged = false) (h5 : r.operations = .dct ko) (h6 : g.dct ko = some (.s [])) : Ty g k n p
set_option tactic.hygienic true in
theorem cV {r : Tr} {n : Int} (B : Bld 3 k (TF r) g H) (q : ∀ H', Bld 3 k (TF (r.wNum n)) g H' -> Q (.ins 3 k) H') : W (fn (d + 2) "numbered" [.ins 3 k, .int n]) H Q := by
 rw [ji]
 repeat trivial
 rename_i B2
 exact q _ (B2.cast (by kernel_rfl))
set_option tactic.hygienic true in
theorem em {a lo hi : MV} (R : Rep g H) (q : ∀ k ko H' r, g.ins 3 k = none -> g.dct ko = none -> r.number = 0 -> r.parent = .none -> r.tagged = false -> r.operations = .dct ko -> Bld 3 k (TF r) (g.setD ko (.s [])) H' -> Q (.ins 3 k) H') : W (fn (d + 3) "int_type" [a, lo, hi]) H Q := by
 rw [jm]
 repeat trivial
 refine oW R fun k ko H' r h1 h2 h3 h4 h5 h6 B => ?_
 repeat trivial
 rename_i B2
 exact q k ko _ { r with low := lo, high := hi } h1 h2 h3 h4 h5 h6 (B2.cast (by kernel_rfl))
theorem jN {kt : Nat} (R : Rep g H) (q : ∀ k H', g.ins 4 k = none -> Rep (g.setI 4 k (StF kt .none)) H' -> Q (.ins 4 k) H') : W (fn (d + 3) "whole_subtype" [.ins 3 kt]) H Q := by
 rw [eG]
 repeat trivial
 refine fV R fun k H' h R' => ?_
 repeat trivial
 exact q k H' h R'
theorem hY {kt : Nat} {a b : MV} (R : Rep g H) (q : ∀ k H', g.ins 4 k = none -> Rep (g.setI 4 k (StF kt (.tup [.str "range", a, b]))) H' -> Q (.ins 4 k) H') : W (fn (d + 3) "range_subtype" [.ins 3 kt, a, b]) H Q := by
 rw [eJ]
 repeat trivial
 refine fV R fun k H' h R' => ?_
 repeat trivial
 exact q k H' h R'
theorem ua {c k' : Nat} {fs : aY} {Q : MV -> MH -> Prop} (B : Bld c k fs g H) (h : g.dct k' = some (.s [])) (q : ∀ ko H', g.dct ko = none -> Bld c k fs (g.setD ko (.s [])) H' -> Q (.dct ko) H') : W (aG "dict" [.dct k']) H Q := by
 have e : aG "dict" [.dct k'] = qt (.dct k') := by kernel_rfl
 rw [e]
 obtain ⟨a, H', e1, q1⟩ := ek (xs := .s []) B fun ko H' _ h2 B' => q ko H' h2 B'
 refine ⟨a, H', ?_, q1⟩
 obtain ⟨t, R⟩ := B.rep
 exact obS rfl (obS (R.dct _ _ h).2 e1)
set_option tactic.hygienic true in
theorem oO {kp : Nat} {n : Int} {p b : MV} (R : Rep g H) (T : Ty g kp n p) (q : ∀ k ko ko2 H' r, g.ins 3 k = none -> g.dct ko = none -> (g.setD ko (.s [])).dct ko2 = none -> r.number = 0 -> r.parent = .ins 3 kp -> r.tagged = false -> r.operations = .dct ko2 -> Bld 3 k (TF r) ((g.setD ko (.s [])).setD ko2 (.s [])) H' -> Q (.ins 3 k) H') : W (fn (d + 3) "derived_type" [.ins 3 kp, b]) H Q := by
 obtain ⟨rp, kop, t1, t2, t3, t4, t5, t6⟩ := T
 rw [fg]
 repeat trivial
 refine oW R fun k ko H' r h1 h2 h3 h4 h5 h6 B => ?_
 have t1' : (g.setD ko (.s [])).ins 3 kp = some (TF rp) := t1
 repeat trivial
 rename_i B2
 rw [t5]
 refine ua B2 ((af (fun z => by rw [z, h2] at t6; exact nos t6)).trans t6) fun ko2 H2 hh B3 => ?_
 repeat trivial
 rename_i B4
 exact q k ko ko2 _ { r with parent := .ins 3 kp, low := rp.low, high := rp.high, literals := rp.literals, modulus := rp.modulus, small := rp.small, index := rp.index, component := rp.component, constrained := rp.constrained, discriminants := rp.discriminants, components := rp.components, variant := rp.variant, designated := rp.designated, constant := rp.constant, tagged := rp.tagged, limited := rp.limited, operations := .dct ko2 } h1 h2 hh h3 rfl t4 rfl (B4.cast (by kernel_rfl))
end
end
section
variable {g : G} {H : MH} {t : Hid} {Q : MV -> MH -> Prop} {d k : Nat}
theorem ph {α : Type} {f : Nat -> Option α} {v : α} (h : f k = some v) : upd f k v = f := by
 funext j
 by_cases e : j = k
 ·subst e; rw [ah, h]
 ·rw [af e]
theorem iz {r : Rg} (h : g.reg k = some r) : g.setR k r = g := by
 unfold G.setR
 rw [ph h]
theorem oA {r : Rg} {s : Str} {Q : Unit -> MH -> Prop} (R : Rep g H) (h : g.reg k = some r) (hs : s ∈ PTs) (q : ∀ H', Rep ((g.setR k { r with part := s }).setU g.used) H' -> Q () H') : W (ar P0.okF (.ins 2 k) "part" (.str s)) H Q := by
 obtain ⟨t, R⟩ := R
 obtain ⟨a, b, L, O⟩ := R.reg k r h
 refine ⟨_, _, cQ (fs' := RF g.root { r with part := s } (t.prv k)) b (iA (by kernel_rfl)) (Nat.le_trans (qX _ _ (t.prv k)).1 (by decide)) (by kernel_rfl), q _ ⟨_, R.setR (H' := H.putI 2 k (RF g.root { r with part := s } (t.prv k))) h (Nat.le_refl _) (Nat.le_refl _) R.used (Nat.le_refl _) R.made (.inl rfl) dp (fun c j z => bB z) (fun a x hx => ⟨hx, fun _ => ⟨rfl, rfl⟩⟩) R.tag ⟨L.tn, L.dn, L.to, L.lo, L.tu, L.lu, L.tt, L.lt, L.tc, L.dc, L.th, L.dh, L.nl, L.no⟩ ?_⟩⟩
 exact ⟨O.kind, hs, O.made, O.es, O.ord, O.esL, O.ordL, O.nlsL, O.cntL, O.cnts, O.homL, O.num1, O.num2, O.lev1, O.lev2⟩
theorem iV {r : Rg} {Q : Unit -> MH -> Prop} (R : bg g H t) (h : g.reg g.root = some r) (hu : g.used + 1 <= 1000) (q : ∀ H' t', bg (g.setU (g.used + 1)) H' t' -> t'.made = t.made + 1 -> (t'.prv g.root).made = t.made + 1 -> H'.next = H.next -> (∀ c j, ¬ (c = 2 /\ j = g.root) -> H'.ins c j = H.ins c j) -> Q () H') : W (ar P0.okF (.ins 2 g.root) "made" (.int ((t.prv g.root).made + 1))) H Q := by
 refine ay fun X hX => ?_
 obtain ⟨a, b, L, O⟩ := R.reg _ r h
 have hm : (t.prv g.root).made = t.made := by rw [O.made, if_pos rfl]
 refine hX ?_
 rw [hm]
 have z := R.setR (r' := r) (p' := { t.prv g.root with made := t.made + 1 }) (tag' := t.tag) (md := t.made + 1) (u := g.used + 1) (H' := H.putI 2 g.root (RF g.root r { t.prv g.root with made := t.made + 1 })) h (Nat.le_refl _) (Nat.le_succ _) hu (Nat.le_succ _) (Nat.succ_le_succ R.made) (.inr rfl) dp (fun c j z => bB z) (fun a x hx => ⟨hx, fun _ => ⟨rfl, rfl⟩⟩) R.tag ⟨L.tn, L.dn, L.to, L.lo, L.tu, L.lu, L.tt, L.lt, L.tc, L.dc, L.th, L.dh, L.nl, L.no⟩
  ⟨O.kind, O.part, (if_pos rfl).symm, O.es, O.ord, Nat.le_succ_of_le O.esL, Nat.le_succ_of_le O.ordL, Nat.le_succ_of_le O.nlsL, Nat.le_succ_of_le O.cntL, fun x hx => Nat.le_succ_of_le (O.cnts x hx), Nat.le_succ_of_le O.homL, O.num1, Int.le_trans O.num2 (Int.ofNat_le.mpr (Nat.le_succ _)), O.lev1, Int.le_trans O.lev2 (Int.ofNat_le.mpr (Nat.le_succ _))⟩
 rw [iz h] at z
 refine ⟨_, _, cQ (fs' := RF g.root r { t.prv g.root with made := t.made + 1 }) b (iA (by kernel_rfl)) (Nat.le_trans (qX _ _ (t.prv g.root)).1 (by decide)) (by kernel_rfl), q _ _ z rfl ?_ rfl fun c j z => bB z⟩
 show ((t.setP g.root _).prv g.root).made = _
 rw [dm]
theorem pM {α β : Type} (f : α -> β) (x : Str) (v : α) : ∀ l : List (Str × α), putS x (f v) (l.map fun p => (p.1, f p.2)) = (putS x v l).map fun p => (p.1, f p.2) := by
 intro l
 induction l with
 | nil => rfl
 | cons q r ih =>
  obtain ⟨a, u⟩ := q
  show (if x = a then (a, f v) :: (r.map fun p => (p.1, f p.2)) else (a, f u) :: putS x (f v) (r.map fun p => (p.1, f p.2))) = (if x = a then (a, v) :: r else (a, u) :: putS x v r).map fun p => (p.1, f p.2)
  by_cases e : x = a
  ·rw [if_pos e, if_pos e]; rfl
  ·rw [if_neg e, if_neg e, ih]; rfl
theorem pL {α : Type} {x : Str} {v : α} : ∀ {l : List (Str × α)} {p : Str × α}, p ∈ putS x v l -> p.2 = v \/ p ∈ l := by
 intro l
 induction l with
 | nil =>
  intro p h
  rcases List.mem_cons.mp h with e | e
  ·exact .inl (by rw [e])
  ·cases e
 | cons q r ih =>
  obtain ⟨a, u⟩ := q
  intro p h
  have h : p ∈ (if x = a then (a, v) :: r else (a, u) :: putS x v r) := h
  by_cases e : x = a
  ·rw [if_pos e] at h
   rcases List.mem_cons.mp h with z | z
   ·exact .inl (by rw [z])
   ·exact .inr (List.mem_cons_of_mem _ z)
  ·rw [if_neg e] at h
   rcases List.mem_cons.mp h with z | z
   ·exact .inr (by rw [z]; exact List.mem_cons_self ..)
   ·rcases ih z with y | y
    ·exact .inl y
    ·exact .inr (List.mem_cons_of_mem _ y)
theorem pN {α : Type} {x : Str} {v : α} : ∀ {l : List (Str × α)}, (putS x v l).length <= l.length + 1 := by
 intro l
 induction l with
 | nil => exact Nat.le_refl _
 | cons q r ih =>
  obtain ⟨a, u⟩ := q
  show (if x = a then (a, v) :: r else (a, u) :: putS x v r).length <= _
  by_cases e : x = a
  ·rw [if_pos e]; simp
  ·rw [if_neg e]
   simp only [List.length_cons]
   exact aK _ _ 0 0 .x (.a .y (.n 1)) (.a .x (.n 1)) (.a (.a .y (.n 1)) (.n 1)) rfl ih
theorem jA {α : Type} {x : Str} {v : α} : ∀ {l : List (Str × α)}, ad (putS x v l) x = some v := by
 intro l
 induction l with
 | nil => exact if_pos rfl
 | cons q r ih =>
  obtain ⟨a, u⟩ := q
  show ad (if x = a then (a, v) :: r else (a, u) :: putS x v r) x = _
  by_cases e : x = a
  ·rw [if_pos e]; exact if_pos e
  ·rw [if_neg e]; exact (if_neg e).trans ih
theorem kW {r : Rg} {x : Str} (R : bg g H t) (h : g.reg k = some r) (q : ∀ c : Nat, c <= g.used -> Q (.int c) H) : W (aM "get" (.dct (t.prv k).kc) [.str x, .int 0]) H Q := by
 refine ay fun X hX => ?_
 obtain ⟨_, _, L, O⟩ := R.reg k r h
 refine hX ?_
 rw [kC]
 have e : wS (.dct (t.prv k).kc) (.str x) (.int 0) H = some ((ad ((t.prv k).cnt.map fun p => (p.1, MV.int p.2)) x).getD (.int 0), H) := by
  exact obS rfl (obS rfl (obS L.dc rfl))
 rw [br (fun n : Nat => MV.int n)] at e
 cases z : ad (t.prv k).cnt x with
 | none => rw [z] at e; exact ⟨_, _, e, q 0 (Nat.zero_le _)⟩
 | some c => rw [z] at e; exact ⟨_, _, e, q c (O.cnts _ (bQ z))⟩
noncomputable def Hid.cnt (t : Hid) (k : Nat) (x : Str) (n : Nat) : Hid := ⟨t.tag, (t.setP k { t.prv k with cnt := putS x n (t.prv k).cnt }).prv, t.made⟩
theorem kU {r : Rg} {x : Str} {n : Nat} {Q : Unit -> MH -> Prop} (R : bg g H t) (h : g.reg k = some r) (hu : g.used + 1 <= 1000) (hn : n <= g.used + 1) (q : ∀ H', bg (g.setU (g.used + 1)) H' (t.cnt k x n) -> Q () H') : W (be (.dct (t.prv k).kc) (.str x) (.int n)) H Q := by
 refine ay fun X hX => ?_
 obtain ⟨a, b, L, O⟩ := R.reg k r h
 have us := R.used
 have z := R.setR (r' := r) (p' := { t.prv k with cnt := putS x n (t.prv k).cnt }) (tag' := t.tag) (md := t.made) (u := g.used + 1) (H' := H.putD (t.prv k).kc (yx (putS x n (t.prv k).cnt))) h (Nat.le_refl _) (Nat.le_succ _) hu (Nat.le_refl _) (Nat.le_succ_of_le R.made) (.inl rfl) b (fun c j z => rfl) (fun a x hx => ⟨hx, fun hk => ⟨rfl, bP fun e => hk (by rw [e, L.tc] at hx; obtain rfl := Option.some.inj hx; rfl)⟩⟩) R.tag
  ⟨L.tn, (bP fun e => by have := L.tn; rw [e, L.tc] at this; cases this).trans L.dn, L.to, L.lo, L.tu, L.lu, L.tt, L.lt, L.tc, gW, L.th, (bP fun e => by have := L.th; rw [e, L.tc] at this; cases this).trans L.dh, L.nl, L.no⟩
  ⟨O.kind, O.part, O.made, O.es, O.ord, Nat.le_succ_of_le O.esL, Nat.le_succ_of_le O.ordL, Nat.le_succ_of_le O.nlsL, Nat.le_trans pN (Nat.succ_le_succ O.cntL), fun y hy => by
   rcases pL hy with e | e
   ·rw [e]; exact hn
   ·exact Nat.le_succ_of_le (O.cnts y e), Nat.le_succ_of_le O.homL, O.num1, O.num2, O.lev1, Int.le_trans O.lev2 (Int.ofNat_le.mpr (Nat.le_succ _))⟩
 rw [iz h] at z
 refine hX ?_
 refine ⟨(), _, ?_, q _ z⟩
 refine obS L.dc (obS rfl ?_)
 change (if decide (((t.prv k).cnt.map fun p => (p.1, MV.int p.2)).length <= cH) then some ((), H.putD (t.prv k).kc (.s (putS x (.int n) ((t.prv k).cnt.map fun p => (p.1, MV.int p.2))))) else none) = _
 rw [if_pos (decide_eq_true (by rw [List.length_map]; have := O.cntL; exact Nat.le_trans this (Nat.le_trans us (by decide)))), pM (fun n : Nat => MV.int n)]
 rfl
theorem oS {r : Rg} {x : Str} {n : Nat} (R : bg g H t) (h : g.reg k = some r) (e : ad (t.prv k).cnt x = some n) (q : Q (.int n) H) : W (aw (.dct (t.prv k).kc) (.str x)) H Q := by
 refine ay fun X hX => ?_
 obtain ⟨a, b, L, O⟩ := R.reg k r h
 refine hX ?_
 refine ⟨_, _, ?_, q⟩
 exact obS L.dc (obS rfl (obS (a := .int n) ((br (fun n : Nat => MV.int n) x _).trans (by rw [e]; rfl)) rfl))
theorem du {α β : Type} (f : α -> β) (x : Int) : ∀ l : List (Int × α), aA (l.map fun p => (p.1, f p.2)) x = (aA l x).map f := by
 intro l
 induction l with
 | nil => rfl
 | cons q r ih =>
  obtain ⟨a, v⟩ := q
  show (if x = a then some (f v) else aA (r.map fun p => (p.1, f p.2)) x) = (if x = a then some v else aA r x).map f
  by_cases e : x = a
  ·rw [if_pos e, if_pos e]; rfl
  ·rw [if_neg e, if_neg e, ih]
noncomputable def nK (p : Nat × Str) : MV := .tup [.ins 2 p.1, .str p.2]
theorem hC {l : List (Int × Nat × Str)} (h : l ≠ []) : wM l = .i (l.map fun p => (p.1, nK p.2)) := by
 cases l with
 | nil => exact absurd rfl h
 | cons a r => rfl
theorem tS {r : Rg} {n : Int} (R : bg g H t) (h : g.reg k = some r) (hne : r.homes ≠ []) (q : Q (.bool (aA r.homes n).isSome) H) : W (az .In (.int n) (.dct (t.prv k).kh)) H Q := by
 refine ay fun X hX => ?_
 obtain ⟨a, b, L, O⟩ := R.reg k r h
 have e : rC (.int n) (.dct (t.prv k).kh) H = some ((aA r.homes n).isSome, H) := by
  refine obS (L.dh.trans (congrArg some (hC hne))) (obS rfl ?_)
  change some ((aA (r.homes.map fun p => (p.1, nK p.2)) n).isSome, H) = _
  rw [du nK]
  cases aA r.homes n <;> rfl
 refine hX ?_
 exact ⟨_, _, obS e rfl, q⟩
theorem gK {r : Rg} {n : Int} (R : bg g H t) (h : g.reg k = some r) (hne : r.homes ≠ []) (q : Q (.bool (!(aA r.homes n).isSome)) H) : W (az .NotIn (.int n) (.dct (t.prv k).kh)) H Q := by
 obtain ⟨a, H', e, rfl, rfl⟩ := tS (Q := fun v H' => v = .bool (aA r.homes n).isSome /\ H' = H) (n := n) R h hne ⟨rfl, rfl⟩
 obtain ⟨p, z, e⟩ := obI e
 obtain ⟨b, H2⟩ := p
 cases e
 exact ⟨_, _, obS z rfl, q⟩
theorem oK {r : Rg} {n : Int} {p : Nat × Str} (R : bg g H t) (h : g.reg k = some r) (e : aA r.homes n = some p) (q : Q (nK p) H) : W (aw (.dct (t.prv k).kh) (.int n)) H Q := by
 obtain ⟨a, b, L, O⟩ := R.reg k r h
 have hne : r.homes ≠ [] := fun z => by rw [z] at e; exact nos e
 exact ⟨_, _, obS (L.dh.trans (congrArg some (hC hne))) (obS rfl (obS (a := nK p) ((du nK n _).trans (by rw [e]; rfl)) rfl)), q⟩
theorem qj {l : List (Int × Nat × Str)} {n : Int} {p : Nat × Str} : wM (l ++ [(n, p)]) = .i ((l.map fun p => (p.1, nK p.2)) ++ [(n, nK p)]) := by
 rw [hC (by simp), List.map_append]; rfl
theorem qS {r : Rg} {n : Int} {p : Nat × Str} (R : bg g H t) (h : g.reg k = some r) (hn : aA r.homes n = none) (hu : g.used + 1 <= 1000) (q : ∀ v H', Rep ((g.setR k (r.wHom n p)).setU (g.used + 1)) H' -> Q v H') : W (aM "setdefault" (.dct (t.prv k).kh) [.int n, nK p]) H Q := by
 refine ay fun X hX => ?_
 obtain ⟨a, b, L, O⟩ := R.reg k r h
 have us := R.used
 have z := R.setR (r' := (r.wHom n p)) (p' := t.prv k) (tag' := t.tag) (md := t.made) (u := g.used + 1) (H' := H.putD (t.prv k).kh (wM (r.homes ++ [(n, p)]))) h (Nat.le_refl _) (Nat.le_succ _) hu (Nat.le_refl _) (Nat.le_succ_of_le R.made) (.inl rfl) b (fun c j z => rfl) (fun a x hx => ⟨hx, fun hk => ⟨rfl, bP fun e => hk (by rw [e, L.th] at hx; obtain rfl := Option.some.inj hx; rfl)⟩⟩) R.tag
  ⟨L.tn, (bP fun e => by have := L.tn; rw [e, L.th] at this; cases this).trans L.dn, L.to, L.lo, L.tu, L.lu, L.tt, L.lt, L.tc, (bP fun e => by have := L.tc; rw [e, L.th] at this; cases this).trans L.dc, L.th, gW, L.nl, L.no⟩
  ⟨O.kind, O.part, O.made, O.es, O.ord, Nat.le_succ_of_le O.esL, Nat.le_succ_of_le O.ordL, Nat.le_succ_of_le O.nlsL, Nat.le_succ_of_le O.cntL, fun y hy => Nat.le_succ_of_le (O.cnts y hy), by
   show (r.homes ++ [(n, p)]).length <= g.used + 1
   rw [List.length_append]; exact Nat.succ_le_succ O.homL, O.num1, O.num2, O.lev1, Int.le_trans O.lev2 (Int.ofNat_le.mpr (Nat.le_succ _))⟩
 refine hX ?_
 rw [iC]
 refine ⟨nK p, _, ?_, q _ _ ⟨_, z⟩⟩
 refine obS rfl (obS L.dh ?_)
 rw [qj]
 cases hh : r.homes with
 | nil => rfl
 | cons x y =>
  rw [<- hh, hC (by rw [hh]; simp)]
  refine (if_pos (decide_eq_true (by rw [List.length_map]; have := O.homL; exact Nat.le_trans this (Nat.le_trans us (by decide))))).trans ?_
  rw [du nK, hn]
  rfl
end
section
variable {g : G} {H : MH} {t : Hid} {Q : MV -> MH -> Prop} {d k : Nat}
theorem tW {r : Er} {n : Str} {v : MV} (R : bg g H t) (h : g.ent k = some r) (e : ad (EF r) n = some v) (q : Q v H) : W (am P0.okF (.ins 1 k) n) H Q := oN ⟨t, R⟩ h e q
theorem fy {α : Type} {x y : Str} {v : α} : ∀ {l : List (Str × α)}, ad (l ++ [(x, v)]) y = match ad l y with
  | some w => some w
  | none => if y = x then some v else none := by
 intro l
 induction l with
 | nil => rfl
 | cons q r ih =>
  obtain ⟨a, u⟩ := q
  show (if y = a then some u else ad (r ++ [(x, v)]) y) = match (if y = a then some u else ad r y) with
   | some w => some w
   | none => if y = x then some v else none
  by_cases e : y = a
  ·rw [if_pos e, if_pos e]
  ·rw [if_neg e, if_neg e, ih]
theorem cq {x y : Str} {e : Nat} {es : List (Str × Nat)} : sel y (es ++ [(x, e)]) = if x = y then sel y es ++ [e] else sel y es := by
 unfold sel
 rw [List.filterMap_append]
 by_cases q : x = y
 ·rw [if_pos q]; simp [q]
 ·rw [if_neg q]; simp [q]
theorem eW (a b : List Nat) : bn (a ++ b) = bn a ++ bn b := List.map_append
theorem ROk.app {r : Rg} {p p' : Rp} {md e : Nat} {re : Er} {x : Str} (O : ROk g md k r p) (he : g.ent e = some re) (hx : re.name = x) (hn : p'.nls.length <= g.used + 1) (hc : p'.cnt = p.cnt) (hm : p'.made = p.made) : ROk ((g.setR k { r with es := r.es ++ [(x, e)] }).setU (g.used + 1)) md k { r with es := r.es ++ [(x, e)] } p' := by
 refine ⟨O.kind, O.part, by rw [hm]; exact O.made, fun z hz => ?_, fun z hz => ?_, ?_, Nat.le_succ_of_le O.ordL, hn, by rw [hc]; exact Nat.le_succ_of_le O.cntL, fun y hy => Nat.le_succ_of_le (O.cnts y (hc ▸ hy)), Nat.le_succ_of_le O.homL, O.num1, O.num2, O.lev1, Int.le_trans O.lev2 (Int.ofNat_le.mpr (Nat.le_succ _))⟩
 ·rcases List.mem_append.mp hz with y | y
  ·exact O.es z y
  ·rcases List.mem_cons.mp y with w | w
   ·rw [w]; exact ⟨re, he, hx⟩
   ·cases w
 ·obtain ⟨y, w⟩ := O.ord z hz
  exact ⟨y, List.mem_append_left _ w⟩
 ·show (r.es ++ [(x, e)]).length <= g.used + 1
  rw [List.length_append]; exact Nat.succ_le_succ O.esL
theorem l0 {α : Type} {f : MV -> M α} {Q : α -> MH -> Prop} {r : Rg} {re : Er} {x : Str} {e : Nat} (R : bg g H t) (h : g.reg k = some r) (he : g.ent e = some re) (hx : re.name = x) (hu : g.used + 1 <= 1000)
  (q : ∀ H2 kx xs, H2.lst kx = some xs -> xs.length <= 1000 -> Rep ((g.setR k { r with es := r.es ++ [(x, e)] }).setU (g.used + 1)) (H2.putL kx (xs ++ [.ins 1 e])) -> W (f (.lst kx)) H2 Q) :
  W (aa (newL []) fun v => aa (aM "setdefault" (.dct (t.prv k).kn) [.str x, v]) f) H Q := by
 obtain ⟨a, b, L, O⟩ := R.reg k r h
 have us := R.used
 have lim : ((t.prv k).nls.map fun p => (p.1, MV.lst p.2)).length <= cH := by
  rw [List.length_map]; exact Nat.le_trans O.nlsL (Nat.le_trans us (by decide))
 have run : ∀ H1 : MH, H1.dct (t.prv k).kn = some (nmD (t.prv k).nls) -> ∀ v, aM "setdefault" (.dct (t.prv k).kn) [.str x, v] H1 = (match (ad (t.prv k).nls x).map MV.lst with
   | some w => some (w, H1)
   | none => some (v, H1.putD (t.prv k).kn (.s (((t.prv k).nls.map fun p => (p.1, MV.lst p.2)) ++ [(x, v)])))) := by
  intro H1 h1 v
  rw [iC]
  refine obS rfl (obS h1 ((if_pos (decide_eq_true lim)).trans ?_))
  rw [br MV.lst]
  cases ad (t.prv k).nls x <;> rfl
 refine aB ⟨_, _, rfl, ?_⟩
 have d1 : (H.putL H.next []).up.dct (t.prv k).kn = some (nmD (t.prv k).nls) := L.dn
 have fr := (R.none_at (Nat.le_refl H.next)).2.2.2.2.2
 have tn : ∀ {a : Nat} {y : Tag}, t.tag a = some y -> a ≠ H.next := fun {a y} ha z => by rw [z, fr] at ha; exact nos ha
 have es1 : sel x (r.es ++ [(x, e)]) = sel x r.es ++ [e] := by rw [cq, if_pos rfl]
 have run := run _ d1 (.lst H.next)
 cases c : ad (t.prv k).nls x with
 | some kx =>
  rw [c] at run
  refine aB ⟨_, _, run, ?_⟩
  obtain ⟨n1, n2⟩ := L.nl x kx c
  have lx : (H.putL H.next []).up.lst kx = some (bn (sel x r.es)) := (aD (tn n1)).trans n2
  have ne : ∀ {a : Nat} {y : Tag}, t.tag a = some y -> y ≠ .nl k x -> a ≠ kx := fun {a y} ha hy z => by rw [z, n1] at ha; obtain rfl := Option.some.inj ha; exact hy rfl
  refine q _ kx _ lx (by rw [an]; have := gU x r.es; have := O.esL; omega) ⟨_, R.setR (r' := { r with es := r.es ++ [(x, e)] }) (p' := t.prv k) (tag' := t.tag) (md := t.made) (u := g.used + 1) h (Nat.le_succ _) (Nat.le_succ _) hu (Nat.le_refl _) (Nat.le_succ_of_le R.made) (.inl rfl) b (fun _ _ _ => rfl) (fun a y ha => ⟨ha, fun hk => ⟨(aD (ne ha fun z => hk (by rw [z]; rfl))).trans (aD (tn ha)), rfl⟩⟩) (fun a y ha => Nat.lt_succ_of_lt (R.tag _ _ ha)) ?_ (O.app he hx (Nat.le_succ_of_le O.nlsL) rfl rfl)⟩
  refine ⟨L.tn, L.dn, L.to, (aD (ne L.to (fun z => nomatch z))).trans ((aD (tn L.to)).trans L.lo), L.tu, (aD (ne L.tu (fun z => nomatch z))).trans ((aD (tn L.tu)).trans L.lu), L.tt, (aD (ne L.tt (fun z => nomatch z))).trans ((aD (tn L.tt)).trans L.lt), L.tc, L.dc, L.th, L.dh, fun y ky hy => ?_, fun y hy => ?_⟩
  ·obtain ⟨m1, m2⟩ := L.nl y ky hy
   refine ⟨m1, ?_⟩
   show _ = some (bn (sel y (r.es ++ [(x, e)])))
   by_cases z : x = y
   ·subst z
    rw [c] at hy; obtain rfl := Option.some.inj hy
    rw [es1, eW]; exact cr
   ·rw [cq, if_neg z]
    exact (aD (ne m1 (fun w => z (by cases w; rfl)))).trans ((aD (tn m1)).trans m2)
  ·show sel y (r.es ++ [(x, e)]) = []
   rw [cq, if_neg (fun z => by rw [<- z, c] at hy; cases hy)]
   exact L.no y hy
 | none =>
  rw [c] at run
  refine aB ⟨_, _, run, ?_⟩
  have nm : ((t.prv k).nls.map fun p => (p.1, MV.lst p.2)) ++ [(x, MV.lst H.next)] = ((t.prv k).nls ++ [(x, H.next)]).map fun p => (p.1, MV.lst p.2) := by rw [List.map_append]; rfl
  rw [nm]
  have neD : ∀ {a : Nat} {y : Tag}, t.tag a = some y -> y ≠ .names k -> a ≠ (t.prv k).kn := fun {a y} ha hy z => by rw [z, L.tn] at ha; obtain rfl := Option.some.inj ha; exact hy rfl
  refine q _ H.next [] cr (Nat.zero_le _) ⟨_, R.setR (r' := { r with es := r.es ++ [(x, e)] }) (p' := { t.prv k with nls := (t.prv k).nls ++ [(x, H.next)] }) (tag' := upd t.tag H.next (.nl k x)) (md := t.made) (u := g.used + 1) h (Nat.le_succ _) (Nat.le_succ _) hu (Nat.le_refl _) (Nat.le_succ_of_le R.made) (.inl rfl) b (fun _ _ _ => rfl) (fun a y ha => ⟨(af (tn ha)).trans ha, fun hk => ⟨(aD (tn ha)).trans (aD (tn ha)), bP (neD ha fun z => hk (by rw [z]; rfl))⟩⟩) (fun a y ha => ?_) ?_ (O.app he hx ?_ rfl rfl)⟩
  ·rcases aS ha with ⟨rfl, _⟩ | ⟨_, ha⟩
   ·exact Nat.lt_succ_self _
   ·exact Nat.lt_succ_of_lt (R.tag _ _ ha)
  ·have tg : ∀ {a : Nat} {y : Tag}, t.tag a = some y -> upd t.tag H.next (.nl k x) a = some y := fun ha => (af (tn ha)).trans ha
   have ls : ∀ {a : Nat} {y : Tag}, t.tag a = some y -> (((H.putL H.next []).up.putD (t.prv k).kn (.s (((t.prv k).nls ++ [(x, H.next)]).map fun p => (p.1, MV.lst p.2)))).putL H.next ([] ++ [.ins 1 e])).lst a = H.lst a := fun ha => (aD (tn ha)).trans (aD (tn ha))
   refine ⟨tg L.tn, gW, tg L.to, (ls L.to).trans L.lo, tg L.tu, (ls L.tu).trans L.lu, tg L.tt, (ls L.tt).trans L.lt, tg L.tc, (bP (neD L.tc (fun z => nomatch z))).trans L.dc, tg L.th, (bP (neD L.th (fun z => nomatch z))).trans L.dh, fun y ky hy => ?_, fun y hy => ?_⟩
   ·have hy : ad ((t.prv k).nls ++ [(x, H.next)]) y = some ky := hy
    rw [fy] at hy
    show _ /\ _ = some (bn (sel y (r.es ++ [(x, e)])))
    cases w : ad (t.prv k).nls y with
    | some ky' =>
     rw [w] at hy; obtain rfl := Option.some.inj hy
     obtain ⟨m1, m2⟩ := L.nl y _ w
     refine ⟨tg m1, ?_⟩
     rw [cq, if_neg (fun z => by rw [<- z, c] at w; exact nos w)]
     exact (ls m1).trans m2
    | none =>
     rw [w] at hy
     have hy : (if y = x then some H.next else none) = some ky := hy
     by_cases z : y = x
     ·subst z
      rw [if_pos rfl] at hy
      obtain rfl := Option.some.inj hy
      rw [es1, L.no y w]
      exact ⟨ah, cr⟩
     ·rw [if_neg z] at hy
      exact nos hy
   ·have hy : ad ((t.prv k).nls ++ [(x, H.next)]) y = none := hy
    rw [fy] at hy
    show sel y (r.es ++ [(x, e)]) = []
    cases w : ad (t.prv k).nls y with
    | some ky' => rw [w] at hy; cases hy
    | none =>
     rw [w] at hy
     have hy : (if y = x then some H.next else none) = none := hy
     rw [cq, if_neg (fun z => by rw [if_pos z.symm] at hy; cases hy)]
     exact L.no y w
  ·show ((t.prv k).nls ++ [(x, H.next)]).length <= g.used + 1
   rw [List.length_append]; exact Nat.succ_le_succ O.nlsL
theorem ic {xs : List MV} {v : MV} (h : H.lst k = some xs) (hl : xs.length <= 10000) (q : Q .none (H.putL k (xs ++ [v]))) : W (aM "append" (.lst k) [v]) H Q := by
 rw [kD]
 refine ⟨_, _, ?_, q⟩
 exact obS rfl (obS h (if_pos (decide_eq_true hl)))
theorem qL {r : Rg} {x : Str} {e : Nat} (R : bg g H t) (h : g.reg k = some r) (hm : (x, e) ∈ r.es) (hu : g.used + 1 <= 1000) (q : ∀ H', Rep ((g.setR k { r with ord := r.ord ++ [e] }).setU (g.used + 1)) H' -> Q .none H') : W (aM "append" (.lst (t.prv k).ko) [.ins 1 e]) H Q := by
 obtain ⟨a, b, L, O⟩ := R.reg k r h
 have us := R.used
 have oL := O.ordL
 refine ic L.lo (by rw [an]; exact leA (leT (by assumption) (by assumption)) rfl) (q _ ⟨_, R.setR (r' := { r with ord := r.ord ++ [e] }) (p' := t.prv k) (tag' := t.tag) (md := t.made) (u := g.used + 1) h (Nat.le_refl _) (Nat.le_succ _) hu (Nat.le_refl _) (Nat.le_succ_of_le R.made) (.inl rfl) b (fun _ _ _ => rfl) (fun a y ha => ⟨ha, fun hk => ⟨aD fun z => hk (by rw [z, L.to] at ha; obtain rfl := Option.some.inj ha; rfl), rfl⟩⟩) R.tag ?_ ?_⟩)
 ·have ne : ∀ {a : Nat} {y : Tag}, t.tag a = some y -> y ≠ .ord k -> a ≠ (t.prv k).ko := fun {a y} ha hy z => by rw [z, L.to] at ha; obtain rfl := Option.some.inj ha; exact hy rfl
  refine ⟨L.tn, L.dn, L.to, ?_, L.tu, (aD (ne L.tu (fun z => nomatch z))).trans L.lu, L.tt, (aD (ne L.tt (fun z => nomatch z))).trans L.lt, L.tc, L.dc, L.th, L.dh, fun y ky hy => ⟨(L.nl y ky hy).1, (aD (ne (L.nl y ky hy).1 (fun z => nomatch z))).trans (L.nl y ky hy).2⟩, L.no⟩
  show _ = some (bn (r.ord ++ [e]))
  rw [eW]; exact cr
 ·refine ⟨O.kind, O.part, O.made, O.es, fun z hz => ?_, Nat.le_succ_of_le O.esL, ?_, Nat.le_succ_of_le O.nlsL, Nat.le_succ_of_le O.cntL, fun x hx => Nat.le_succ_of_le (O.cnts x hx), Nat.le_succ_of_le O.homL, O.num1, O.num2, O.lev1, Int.le_trans O.lev2 (Int.ofNat_le.mpr (Nat.le_succ _))⟩
  ·rcases List.mem_append.mp hz with y | y
   ·exact O.ord z y
   ·rcases List.mem_cons.mp y with w | w
    ·rw [w]; exact ⟨x, hm⟩
    ·cases w
  ·show (r.ord ++ [e]).length <= g.used + 1
   rw [List.length_append]; exact Nat.succ_le_succ O.ordL
end
local macro_rules | `(tactic| trivial) => `(tactic| first
 | ((with_reducible apply tW); assumption; assumption; rfl))
section
variable {g : G} {H : MH} {t : Hid} {Q : MV -> MH -> Prop} {d k : Nat}
inductive Fr (g : G) : Nat -> Nat -> Prop
 | here {k : Nat} {r : Rg} : g.reg k = some r -> (r.kind = "root" \/ r.kind = "sub") -> Fr g k 0
 | up {k k' n : Nat} {r : Rg} : g.reg k = some r -> (r.kind = "package" \/ r.kind = "block") -> r.parent = some k' -> Fr g k' n -> Fr g k (n + 1)
theorem qi {s : Str} (h : s = "root" \/ s = "sub") : az .NotIn (.str s) (.tup [.str "root", .str "sub", .str "task", .str "protected"]) H = some (.bool false, H) := by
 rcases h with rfl | rfl <;> kernel_rfl
theorem nc {s : Str} (h : s = "package" \/ s = "block") : az .NotIn (.str s) (.tup [.str "root", .str "sub", .str "task", .str "protected"]) H = some (.bool true, H) := by
 rcases h with rfl | rfl <;> kernel_rfl
theorem tY {n : Nat} (R : Rep g H) (F : Fr g k n) (hn : n < 19) (q : ∀ kf rf, g.reg kf = some rf -> Q (.ins 2 kf) H) : W (fn (d + 2) "frame_region" [.ins 2 k]) H Q := by
 rw [ff]
 repeat trivial
 refine hW (fun n ρ H' => H' = H /\ ∃ k', Fr g k' n /\ ad ρ "here" = some (.ins 2 k')) (fun n ρ H' p => ?_) n 20 _ H ⟨rfl, k, F, rfl⟩ (by exact leA (by assumption) rfl)
 obtain ⟨rfl, k', F', h1⟩ := p
 cases F' with
 | here hr hk =>
  repeat trivial
  refine pf (qi hk) ?_
  repeat trivial
  refine ⟨fun e => (by cases e), fun _ => ?_⟩
  repeat trivial
  exact q _ _ hr
 | up hr hk hp F2 =>
  repeat trivial
  refine pf (nc hk) ?_
  repeat trivial
  refine ⟨fun _ => ⟨_, rfl, ?_⟩, fun e => (by cases e)⟩
  repeat trivial
  rw [hp]
  exact ⟨rfl, _, F2, rfl⟩
theorem ik : ∀ c < 1001, ((gF (Int.ofNat c)).cps.size <= 50 /\ PyData.strOk (gF (Int.ofNat c)) = true) := by decide +kernel
theorem kz : ∀ x ∈ NMs, x.cps.size <= 50 := by decide +kernel
theorem nY (a b : Str) : (a ++ b).cps = a.cps ++ b.cps := rfl
theorem il {a b : Str} (ha : PyData.strOk a = true) (hb : PyData.strOk b = true) : PyData.strOk (a ++ b) = true := by
 unfold PyData.strOk at *
 rw [nY, Array.all_append, ha, hb]; rfl
theorem oV {a b : Str} (ha : a.cps.size <= 10000) (hb : b.cps.size <= 10000) (q : Q (.str (a ++ b)) H) : W (dz .Add (.str a) (.str b)) H Q := ⟨_, _, (show (if decide (a.cps.size <= cH) && decide (b.cps.size <= cH) then some (MV.str (a ++ b), H) else none) = _ from if_pos (Bool.and_eq_true_iff.mpr ⟨decide_eq_true ha, decide_eq_true hb⟩)), q⟩
theorem pk {c : Nat} (h : c < 1001) : yw H (Int.ofNat c) = some (.str (gF (Int.ofNat c)), H) := if_pos (Bool.and_eq_true_iff.mpr ⟨decide_eq_true (n0 c), decide_eq_true (clt (b := 10000) (aK _ 0 0 0 (.a .x (.n 1)) (.n 1001) (.a .x (.n 1)) (.n 10000) rfl h))⟩)
theorem rM {c : Nat} (h : c < 1001) (q : Q (.str (gF (Int.ofNat c))) H) : W (aG "str" [.int c]) H Q := by
 have e : aG "str" [.int c] = wB (.int c) := by kernel_rfl
 rw [e]
 exact ⟨_, _, obS rfl (pk h), q⟩
theorem qG {x : Str} {c : Nat} (hx : x ∈ NMs) (hc : c < 1001) (q : ∀ u, PyData.strOk u = true -> Q (.str u) H) : W (fn (d + 2) "unique" [.str x, .int c]) H Q := by
 rw [mQ]
 repeat trivial
 refine oV (Nat.le_trans (kz x hx) (by decide)) (by decide +kernel) ?_
 repeat trivial
 refine rM hc ?_
 repeat trivial
 have s := ik c hc
 have e1 : ("#" : Str).cps.size = 1 := by decide +kernel
 refine oV ?_ (Nat.le_trans s.1 (by decide)) ?_
 ·have := kz x hx
  rw [nY, Array.size_append, e1]; exact rK (by assumption) rfl
 repeat trivial
 exact q _ (il (il (jv x hx) (by decide +kernel)) s.2)
theorem vj : ∀ x ∈ EKs, x ≠ ("exception" : Str) := by decide +kernel
theorem i5 {n e : Nat} {re : Er} (R : Rep g H) (F : Fr g k n) (hn : n < 19) (he : g.ent e = some re) (hu : g.used + 1 <= 1000) (q : ∀ H' u, PyData.strOk u = true -> Rep ((g.setU (g.used + 1)).setE e (re.wU u)) H' -> Q .none H') : W (fn (d + 3) "give_unique" [.ins 2 k, .ins 1 e]) H Q := by
 have ok := R.eok he
 rw [gh]
 repeat trivial
 refine gq (nS _ ok.kind) (by decide +kernel) ?_
 repeat trivial
 refine oF (decide_eq_false (vj _ ok.kind)) ?_
 repeat trivial
 refine tY R F hn fun kf rf hf => ?_
 obtain ⟨t, RT⟩ := R
 have R : Rep g H := ⟨t, RT⟩
 repeat trivial
 refine fP (RT.reg _ _ hf).2.2.1.dc (by decide +kernel) ?_
 repeat trivial
 refine kW RT hf fun c hc => ?_
 repeat trivial
 have us := RT.used
 refine fU (by exact bu _ _ 0 0 .x .y .y (.n 1000) (.a .x (.n 1)) (.n 4611686018427387904) rfl hc us) (by exact iE 0 0 0 0 (.a (.n 1) (.n 1)) (.n 4611686018427387904) rfl) ?_
 repeat trivial
 refine kU (n := c + 1) RT hf hu (by exact aK _ _ 0 0 .x .y (.a .x (.n 1)) (.a .y (.n 1)) rfl hc) fun H1 RT1 => ?_
 have R1 : Rep (g.setU (g.used + 1)) H1 := ⟨_, RT1⟩
 have he1 : (g.setU (g.used + 1)).ent e = some re := he
 repeat trivial
 refine dW (fun _ => ?_) fun _ => ?_
 ·repeat trivial
  refine bz (r' := (re.wU re.name)) R1 he1 (by kernel_rfl) rfl rfl (fun o => ⟨o.kind, o.name, o.part, jv _ o.name⟩) fun H2 R2 => ?_
  repeat trivial
  exact q _ _ (jv _ ok.name) R2
 ·repeat trivial
  refine qG ok.name (by exact bu _ _ 0 0 (.a .y (.n 1)) (.n 1000) .x .y (.a .x (.n 1)) (.n 1001) rfl hu hc) fun u su => ?_
  repeat trivial
  refine bz (r' := (re.wU u)) R1 he1 (by kernel_rfl) rfl rfl (fun o => ⟨o.kind, o.name, o.part, su⟩) fun H2 R2 => ?_
  repeat trivial
  exact q _ _ su R2
noncomputable def G.ovr (g : G) (l : List Nat) : G := { g with ent := fun k => if k ∈ l then (g.ent k).map fun r => (r.wO true) else g.ent k }
noncomputable def aJ (g : G) (r : Rg) (re : Er) : List Nat := ((sel re.name r.es).filter fun o => !(g.e o).overridden).filter fun o => hom (g.e o) re
inductive fW (g : G) (r : Rg) (e : Nat) (re : Er) : G -> Prop
 | all : (∀ o ∈ aJ g r re, (g.e o).implicit = true) -> fW g r e re (g.ovr (aJ g r re))
 | me : (∃ o ∈ aJ g r re, (g.e o).implicit = false) -> fW g r e re (g.setE e (re.wO true))
theorem pQ {l : List Nat} {o : Nat} {ro : Er} (h : (g.ovr l).ent o = some ro) : (g.ovr (l ++ [o])) = (g.ovr l).setE o (ro.wO true) := by
 have : (g.ovr (l ++ [o])).ent = ((g.ovr l).setE o (ro.wO true)).ent := by
  funext j
  show (if j ∈ l ++ [o] then _ else _) = upd (g.ovr l).ent o _ j
  by_cases e : j = o
  ·subst e
   rw [ah, if_pos (by simp)]
   have h : (if j ∈ l then (g.ent j).map fun r => (r.wO true) else g.ent j) = some ro := h
   by_cases m : j ∈ l
   ·rw [if_pos m] at h
    obtain ⟨s, h1, rfl⟩ := Option.map_eq_some_iff.mp h
    rw [h1]; rfl
   ·rw [if_neg m] at h
    rw [h]; rfl
  ·rw [af e]
   show _ = (if j ∈ l then _ else _)
   by_cases m : j ∈ l
   ·rw [if_pos m, if_pos (List.mem_append_left _ m)]
   ·rw [if_neg m, if_neg (by simp [m, e])]
 unfold G.setE at this ⊢
 unfold G.ovr at this ⊢
 simp only at this ⊢
 rw [this]
theorem m9 : g.ovr [] = g := by
 unfold G.ovr
 simp
theorem qI {e : Nat} {r : Rg} {re : Er} (R : Rep g H) (h : g.reg k = some r) (he : g.ent e = some re) (hx : (∃ o ∈ aJ g r re, (g.e o).implicit = false) -> re.implicit = true) (q : ∀ g' H', fW g r e re g' -> Rep g' H' -> Q .none H') : W (fn (d + 3) "settle_rivals" [.ins 2 k, .ins 1 e]) H Q := by
 rw [eI]
 obtain ⟨t, RT⟩ := R
 have R : Rep g H := ⟨t, RT⟩
 have hE := RT.ents h re.name
 have hL := R.selL h re.name
 repeat trivial
 refine fP (RT.reg _ _ h).2.2.1.dn (by decide +kernel) ?_
 repeat trivial
 refine el RT h fun v hv => ?_
 repeat trivial
 refine hv _ fun s hn hi => ?_
 repeat trivial
 refine cO (sel re.name r.es) (fun o => !(g.e o).overridden) hn (hi H .refl) (fun o ho => ?_) ?_
 ·have ho' := hE o ho
  repeat trivial
  cases (g.e o).overridden
  ·repeat trivial
  ·repeat trivial
 have hL2 := bf (fun o => !(g.e o).overridden) (sel re.name r.es)
 have hE2 : o8 g ((sel re.name r.es).filter fun o => !(g.e o).overridden) := fun o ho => hE o (List.mem_filter.mp ho).1
 refine eY (by rw [an]; exact leA (leT (by assumption) (by assumption)) rfl) ?_
 repeat trivial
 refine bm (by rw [an]; exact leA (leT (by assumption) (by assumption)) rfl) fun s1 hn1 hi1 => ?_
 repeat trivial
 refine cO _ (fun o => hom (g.e o) re) hn1 (hi1 H) (fun o ho => ?_) ?_
 ·have ho' := hE2 o ho
  repeat trivial
  refine cN R ho' he ?_
  repeat trivial
  cases hom (g.e o) re
  ·repeat trivial
  ·repeat trivial
 have hL3 := bf (fun o => hom (g.e o) re) ((sel re.name r.es).filter fun o => !(g.e o).overridden)
 have hE3 : o8 g (aJ g r re) := fun o ho => hE2 o (List.mem_filter.mp ho).1
 have hL4 : (aJ g r re).length <= 1000 := Nat.le_trans hL3 (by exact leA (leT (by assumption) (by assumption)) rfl)
 refine eY (by rw [an]; exact leA (by assumption) rfl) ?_
 repeat trivial
 refine bm (by rw [an]; exact Nat.le_trans hL4 (by decide)) fun s2 hn2 hi2 => ?_
 repeat trivial
 refine cO (aJ g r re) (fun o => !(g.e o).implicit) hn2 (hi2 H) (fun o ho => ?_) ?_
 ·have ho' := hE3 o ho
  repeat trivial
  cases (g.e o).implicit
  ·repeat trivial
  ·repeat trivial
 have hL5 := bf (fun o => !(g.e o).implicit) (aJ g r re)
 refine eY (by rw [an]; exact leA (leT (by assumption) (by assumption)) rfl) ?_
 repeat trivial
 refine iX (by rw [an]; exact leA (leT (by assumption) (by assumption)) rfl) ?_
 repeat trivial
 refine dW (fun c => ?_) fun c => ?_
 ·have ex : ∃ o ∈ aJ g r re, (g.e o).implicit = false := by
   cases z : (aJ g r re).filter fun o => !(g.e o).implicit with
   | nil => rw [z] at c; cases c
   | cons o l =>
    have : o ∈ (aJ g r re).filter fun o => !(g.e o).implicit := by rw [z]; exact List.mem_cons_self ..
    obtain ⟨m1, m2⟩ := List.mem_filter.mp this
    exact ⟨o, m1, by simpa using m2⟩
  have im := hx ex
  repeat trivial
  rw [im]
  repeat trivial
  refine bz (r' := (re.wO true)) R he (by kernel_rfl) (by rw [<- im]; rfl) rfl (fun o => { o with }) fun H2 R2 => ?_
  repeat trivial
  exact q _ _ (.me ex) R2
 ·have al : ∀ o ∈ aJ g r re, (g.e o).implicit = true := by
   intro o ho
   cases z : (g.e o).implicit with
   | true => rfl
   | false =>
    have : o ∈ (aJ g r re).filter fun o => !(g.e o).implicit := List.mem_filter.mpr ⟨ho, by rw [z]; rfl⟩
    cases w : (aJ g r re).filter fun o => !(g.e o).implicit with
    | nil => rw [w] at this; cases this
    | cons a b => rw [w] at c; cases c
  repeat trivial
  refine bm (by rw [an]; exact Nat.le_trans hL4 (by decide)) fun s3 hn3 hi3 => ?_
  repeat trivial
  refine gp (bn (aJ g r re)) (fun j ρ H' => Rep (g.ovr ((aJ g r re).take j)) H') hn3 (by rw [List.take_zero, m9]; exact R) (fun j ρ H' p => hi3 H') (fun j v ρ H' hv p => ?_) fun ρ H' p => ?_
  ·obtain ⟨o, ho, rfl⟩ := cv hv
   have h1 := hE3 o (List.mem_of_getElem? ho)
   have h2 : ∃ ro, (g.ovr ((aJ g r re).take j)).ent o = some ro := by
    show ∃ ro, (if o ∈ (aJ g r re).take j then (g.ent o).map fun r => (r.wO true) else g.ent o) = some ro
    rw [h1]
    by_cases m : o ∈ (aJ g r re).take j
    ·rw [if_pos m]; exact ⟨_, rfl⟩
    ·rw [if_neg m]; exact ⟨_, rfl⟩
   obtain ⟨ro, h2⟩ := h2
   repeat trivial
   refine bz (r' := (ro.wO true)) p h2 (by kernel_rfl) rfl rfl (fun o => { o with }) fun H2 R2 => ?_
   repeat trivial
   rw [List.take_add_one, ho, Option.toList_some, pQ h2]
   exact R2
  ·repeat trivial
   rw [an, List.take_length] at p
   exact q _ _ (.all al) p
end
section
variable {g : G} {H : MH} {t : Hid} {Q : MV -> MH -> Prop} {d k : Nat}
theorem vm : ∀ x ∈ NMs, jt "." x = some false := by decide +kernel
theorem sZ {s x : Str} {b : Bool} (e : jt s x = some b) : rC (.str s) (.str x) H = some (b, H) := obS e rfl
theorem vt {s x : MV} {b : Bool} (e : rC s x H = some (b, H)) : az .In s x H = some (.bool b, H) := obS e rfl
theorem t8 {x : Str} (hx : x ∈ NMs) (q : Q (.bool false) H) : W (az .In (.str ".") (.str x)) H Q := by
 exact ⟨_, _, vt (sZ (vm x hx)), q⟩
theorem lw {r : Rg} {e : Nat} {re : Er} {g1 : G} (S : fW g r e re g1) (he : g.ent e = some re) : ∃ re1, g1.ent e = some re1 /\ re1 = (re.wO re1.overridden) /\ g1.reg = g.reg /\ g1.root = g.root /\ g1.used = g.used := by
 cases S with
 | all a =>
  show ∃ re1, (if e ∈ aJ g r re then (g.ent e).map fun r => (r.wO true) else g.ent e) = some re1 /\ _
  rw [he]
  by_cases m : e ∈ aJ g r re
  ·rw [if_pos m]; exact ⟨_, rfl, rfl, rfl, rfl, rfl⟩
  ·rw [if_neg m]; exact ⟨_, rfl, rfl, rfl, rfl, rfl⟩
 | me a => exact ⟨_, ah, rfl, rfl, rfl, rfl⟩
theorem Fr.mono {g' : G} {n : Nat} (F : Fr g k n) (h : ∀ k r, g.reg k = some r -> ∃ r', g'.reg k = some r' /\ r'.kind = r.kind /\ r'.parent = r.parent) : Fr g' k n := by
 induction F with
 | here a b =>
  obtain ⟨r', h1, h2, h3⟩ := h _ _ a
  exact .here h1 (by rw [h2]; exact b)
 | up a b c _ ih =>
  obtain ⟨r', h1, h2, h3⟩ := h _ _ a
  exact .up h1 (by rw [h2]; exact b) (by rw [h3]; exact c) ih
noncomputable def aj (r : Rg) (x : Str) (e : Nat) : Rg := { r with es := r.es ++ [(x, e)], ord := r.ord ++ [e] }
theorem oP {n e : Nat} {r rr : Rg} {re : Er} (R : Rep g H) (h : g.reg k = some r) (hr : g.reg g.root = some rr) (he : g.ent e = some re) (F : Fr g k n) (hn : n < 19) (hu : g.used + 10 <= 1000) (hx : (∃ o ∈ aJ g r re, (g.e o).implicit = false) -> re.implicit = true)
  (q : ∀ H' g1 re1 num u, fW g r e re g1 -> g1.ent e = some re1 -> PyData.strOk u = true -> Rep (((g1.setE e ((((re1.wN num).wH k).wP r.part).wU u)).setR k (aj r re.name e)).setU (g.used + 4)) H' -> Q .none H') : W (fn (d + 4) "declare" [.ins 2 k, .ins 1 e]) H Q := by
 have nOk := (R.eok he).name
 rw [lq]
 repeat trivial
 refine t8 nOk ?_
 repeat trivial
 refine qI R h he hx fun g1 H1 S R1 => ?_
 obtain ⟨re1, e1, e2, e3, e4, e5⟩ := lw S he
 have hr1 : g1.reg g1.root = some rr := by rw [e3, e4]; exact hr
 have h1 : g1.reg k = some r := by rw [e3]; exact h
 have n1 : re1.name = re.name := by rw [e2]
 have pOk : r.part ∈ PTs := by
  obtain ⟨t, R⟩ := R
  exact (R.reg _ _ h).2.2.2.part
 obtain ⟨t1, RT1⟩ := R1
 have R1 : Rep g1 H1 := ⟨t1, RT1⟩
 have us := RT1.used
 have ms := RT1.made
 have mm := (RT1.reg _ _ hr1).2.2.2.made
 rw [if_pos rfl] at mm
 repeat trivial
 refine oT (by exact gk _ _ _ 0 .y (.n 1000) .z .y .x .z (.a .x (.n 1)) (.n 4611686018427387904) rfl us ms (Nat.le_of_eq mm)) (by exact iE 0 0 0 0 (.a (.n 1) (.n 1)) (.n 4611686018427387904) rfl) ?_
 repeat trivial
 refine iV RT1 hr1 (by exact bu _ _ 0 0 (.a .y (.n 10)) (.n 1000) .x .y (.a .x (.n 1)) (.n 1000) rfl hu (Nat.le_of_eq e5)) fun H2 t2 RT2 m1 m2 _ _ => ?_
 have R2 : Rep (g1.setU (g1.used + 1)) H2 := ⟨t2, RT2⟩
 have h2 : (g1.setU (g1.used + 1)).reg k = some r := h1
 have hr2 : (g1.setU (g1.used + 1)).reg (g1.setU (g1.used + 1)).root = some rr := hr1
 have he2 : (g1.setU (g1.used + 1)).ent e = some re1 := e1
 repeat trivial
 refine bz (r' := (re1.wN (t2.prv (g1.setU (g1.used + 1)).root).made)) R2 he2 (by kernel_rfl) rfl rfl (fun o => { o with }) fun H3 R3 => ?_
 have h3 : ((g1.setU (g1.used + 1)).setE e (re1.wN (t2.prv (g1.setU (g1.used + 1)).root).made)).reg k = some r := h1
 have he3 : ((g1.setU (g1.used + 1)).setE e (re1.wN (t2.prv (g1.setU (g1.used + 1)).root).made)).ent e = some (re1.wN (t2.prv (g1.setU (g1.used + 1)).root).made) := ah
 generalize hnum : ((t2.prv (g1.setU (g1.used + 1)).root).made : Int) = num at R3 h3 he3
 repeat trivial
 refine bz (r' := ((re1.wN num).wH k)) R3 he3 (by kernel_rfl) rfl rfl (fun o => { o with }) fun H4 R4 => ?_
 rw [aX] at R4
 have h4 : ((g1.setU (g1.used + 1)).setE e ((re1.wN num).wH k)).reg k = some r := h1
 have he4 : ((g1.setU (g1.used + 1)).setE e ((re1.wN num).wH k)).ent e = some ((re1.wN num).wH k) := ah
 repeat trivial
 refine bz (r' := (((re1.wN num).wH k).wP r.part)) R4 he4 (by kernel_rfl) rfl rfl (fun o => ⟨o.kind, o.name, pOk, o.uniq⟩) fun H5 R5 => ?_
 rw [aX] at R5
 have he5 : ((g1.setU (g1.used + 1)).setE e (((re1.wN num).wH k).wP r.part)).ent e = some (((re1.wN num).wH k).wP r.part) := ah
 repeat trivial
 refine i5 (n := n) R5 (F.mono fun j s hj => ⟨s, by rw [<- e3] at hj; exact hj, rfl, rfl⟩) hn he5 (by show g1.used + 1 + 1 <= 1000; exact bu _ _ 0 0 (.a .y (.n 10)) (.n 1000) .x .y (.a (.a .x (.n 1)) (.n 1)) (.n 1000) rfl hu (Nat.le_of_eq e5)) fun H6 u su R6 => ?_
 have R6 : Rep ((g1.setU (g1.used + 2)).setE e ((((re1.wN num).wH k).wP r.part).wU u)) H6 := by
  have z : (((g1.setU (g1.used + 1)).setE e (((re1.wN num).wH k).wP r.part)).setU (g1.used + 1 + 1)).setE e ((((re1.wN num).wH k).wP r.part).wU u) = (g1.setU (g1.used + 2)).setE e ((((re1.wN num).wH k).wP r.part).wU u) :=
   aX (g := g1.setU (g1.used + 2))
  exact z ▸ R6
 obtain ⟨t6, RT6⟩ := R6
 have R6 : Rep ((g1.setU (g1.used + 2)).setE e ((((re1.wN num).wH k).wP r.part).wU u)) H6 := ⟨t6, RT6⟩
 have h6 : ((g1.setU (g1.used + 2)).setE e ((((re1.wN num).wH k).wP r.part).wU u)).reg k = some r := h1
 have he6 : ((g1.setU (g1.used + 2)).setE e ((((re1.wN num).wH k).wP r.part).wU u)).ent e = some ((((re1.wN num).wH k).wP r.part).wU u) := ah
 repeat trivial
 refine fP (RT6.reg _ _ h6).2.2.1.dn (by decide +kernel) ?_
 repeat (first | with_reducible refine aB ?_ | ((with_reducible apply qO); rfl))
 refine oN R6 he6 rfl ?_
 refine l0 (x := re1.name) RT6 h6 he6 rfl (by show g1.used + 2 + 1 <= 1000; exact bu _ _ 0 0 (.a .y (.n 10)) (.n 1000) .x .y (.a (.a .x (.n 2)) (.n 1)) (.n 1000) rfl hu (Nat.le_of_eq e5)) fun H7 kx xs l1 l2 R7 => ?_
 repeat trivial
 refine eE l1 (by decide +kernel) ?_
 repeat trivial
 refine ic l1 (by exact leA (by assumption) rfl) ?_
 obtain ⟨t7, RT7⟩ := R7
 have h7 : ((((g1.setU (g1.used + 2)).setE e ((((re1.wN num).wH k).wP r.part).wU u)).setR k { r with es := r.es ++ [(re1.name, e)] }).setU (g1.used + 2 + 1)).reg k = some { r with es := r.es ++ [(re1.name, e)] } := ah
 repeat trivial
 refine eE (RT7.reg _ _ h7).2.2.1.lo (by decide +kernel) ?_
 repeat trivial
 refine qL (x := re1.name) RT7 h7 (List.mem_append_right _ (List.mem_cons_self ..)) (by show g1.used + 2 + 1 + 1 <= 1000; exact bu _ _ 0 0 (.a .y (.n 10)) (.n 1000) .x .y (.a (.a (.a .x (.n 2)) (.n 1)) (.n 1)) (.n 1000) rfl hu (Nat.le_of_eq e5)) fun H8 R8 => ?_
 repeat trivial
 refine q H8 g1 re1 num u S e1 su ?_
 have z : ((((((g1.setU (g1.used + 2)).setE e ((((re1.wN num).wH k).wP r.part).wU u)).setR k { r with es := r.es ++ [(re1.name, e)] }).setU (g1.used + 2 + 1)).setR k { r with es := r.es ++ [(re1.name, e)], ord := r.ord ++ [e] }).setU (g1.used + 2 + 1 + 1)) = (((g1.setE e ((((re1.wN num).wH k).wP r.part).wU u)).setR k (aj r re.name e)).setU (g.used + 4)) := by
  rw [e5, n1]
  unfold G.setR G.setU G.setE aj
  simp only [df]
 exact z ▸ R8
end
section
variable {g : G} {H : MH} {t : Hid} {Q : MV -> MH -> Prop} {d k : Nat}
noncomputable def aF (re : Er) (k : Nat) (r : Rg) (num : Int) (u : Str) : Er := { re with number := num, home := some k, part := r.part, unique := u, ready := true }
theorem fQ {n e : Nat} {r rr : Rg} {re : Er} (R : Rep g H) (h : g.reg k = some r) (hr : g.reg g.root = some rr) (he : g.ent e = some re) (F : Fr g k n) (hn : n < 19) (hu : g.used + 10 <= 1000) (hx : (∃ o ∈ aJ g r re, (g.e o).implicit = false) -> re.implicit = true)
  (q : ∀ H' g1 re1 num u, fW g r e re g1 -> g1.ent e = some re1 -> PyData.strOk u = true -> Rep (((g1.setE e (aF re1 k r num u)).setR k (aj r re.name e)).setU (g.used + 4)) H' -> Q .none H') : W (fn (d + 5) "declare_ready" [.ins 2 k, .ins 1 e]) H Q := by
 rw [eL]
 repeat trivial
 refine oP R h hr he F hn hu hx fun H1 g1 re1 num u S e1 su R1 => ?_
 have he1 : (((g1.setE e ((((re1.wN num).wH k).wP r.part).wU u)).setR k (aj r re.name e)).setU (g.used + 4)).ent e = some ((((re1.wN num).wH k).wP r.part).wU u) := ah
 repeat trivial
 refine iZ R1 he1 fun H2 R2 => ?_
 repeat trivial
 refine q H2 g1 re1 num u S e1 su ?_
 have z : (((g1.setE e ((((re1.wN num).wH k).wP r.part).wU u)).setR k (aj r re.name e)).setU (g.used + 4)).setE e (aF re1 k r num u) = ((g1.setE e (aF re1 k r num u)).setR k (aj r re.name e)).setU (g.used + 4) := by
  unfold G.setR G.setU G.setE
  simp only [df]
 exact z ▸ R2
theorem dB {n e : Nat} {r rr : Rg} {re : Er} (R : Rep g H) (h : g.reg k = some r) (hr : g.reg g.root = some rr) (he : g.ent e = some re) (F : Fr g k n) (hn : n < 19) (hu : g.used + 10 <= 1000) (hx : ∀ o ∈ sel re.name r.es, hom (g.e o) re = false)
  (q : ∀ H' num u, PyData.strOk u = true -> Rep (((g.setE e (aF re k r num u)).setR k (aj r re.name e)).setU (g.used + 4)) H' -> Q .none H') : W (fn (d + 5) "declare_ready" [.ins 2 k, .ins 1 e]) H Q := by
 have none : aJ g r re = [] := by
  unfold aJ
  rw [List.filter_eq_nil_iff]
  intro o ho
  rw [hx o (List.mem_filter.mp ho).1]
  decide
 refine fQ R h hr he F hn hu (fun ⟨o, ho, _⟩ => by rw [none] at ho; cases ho) fun H' g1 re1 num u S e1 su R' => ?_
 cases S with
 | all a =>
  rw [none, m9] at R' e1
  rw [he] at e1; obtain rfl := Option.some.inj e1
  exact q H' num u su R'
 | me a => obtain ⟨o, ho, _⟩ := a; rw [none] at ho; cases ho
theorem vI {r rr : Rg} {n : Int} (R : Rep g H) (h : g.reg k = some r) (hr : g.reg g.root = some rr) (hn : aA rr.homes n = none) (hu : g.used + 1 <= 1000) (q : ∀ H', Rep ((g.setR g.root (rr.wHom n (k, r.part))).setU (g.used + 1)) H' -> Q .none H') : W (fn (d + 2) "note_type" [.ins 2 k, .int n]) H Q := by
 obtain ⟨t, RT⟩ := R
 have R : Rep g H := ⟨t, RT⟩
 rw [ir]
 repeat trivial
 refine fP (RT.reg _ _ hr).2.2.1.dh (by decide +kernel) ?_
 repeat trivial
 refine qS (p := (k, r.part)) RT hr hn hu fun v H' R' => ?_
 repeat trivial
 exact q H' R'
theorem fS {r : Rg} (R : Rep g H) (h : g.reg k = some r) (q : ∀ H', Rep ((g.setR k { r with part := "private" }).setU g.used) H' -> Q .none H') : W (fn (d + 2) "begin_private" [.ins 2 k]) H Q := by
 rw [eM]
 repeat trivial
 refine oA (s := "private") R h (by decide +kernel) fun H' R' => ?_
 repeat trivial
 exact q H' R'
noncomputable def bV (ns : List Int) (i : Nat) : List MV := [.fz (ns.map .int), .int i]
theorem dK {xs ys : List MV} : (g.setL k xs).setL k ys = g.setL k ys := by unfold G.setL; simp only [df]
theorem fA {o : MV} {xs : List MV} {v : MV} {i : Nat} (h : jo H o = some xs) (hl : xs.length <= 10000) (hi : xs[i]? = some v) : tf o i H = some (v, H) := by
 have lt : i < xs.length := (List.getElem?_eq_some_iff.mp hi).1
 have fit : fD (i : Int) = true := decide_eq_true (by exact leA (leT (by assumption) (by assumption)) rfl)
 have n1 : nth xs (i : Int) = some v := (if_pos (n0 i)).trans hi
 exact obS h ((if_pos (Bool.and_eq_true_iff.mpr ⟨fit, decide_eq_true hl⟩)).trans (obS n1 rfl))
theorem bT {xs : List MV} {v : MV} {i : Nat} (h : H.lst k = some xs) (hl : xs.length <= 10000) (hi : xs[i]? = some v) (q : Q v H) : W (aw (.lst k) (.int i)) H Q := ⟨v, H, fA (o := .lst k) h hl hi, q⟩
theorem oI {xs : List MV} {v : MV} {i : Nat} (hl : xs.length <= 10000) (hi : xs[i]? = some v) (q : Q v H) : W (aw (.fz xs) (.int i)) H Q := ⟨v, H, fA (o := .fz xs) rfl hl hi, q⟩
theorem rP {xs : List MV} (hl : xs.length <= 10000) (q : Q (.int xs.length) H) : W (aG "len" [.fz xs]) H Q := by
 have e : aG "len" [.fz xs] = uv (.fz xs) := by kernel_rfl
 rw [e]
 exact ⟨_, _, if_pos (decide_eq_true hl), q⟩
theorem gH {xs : List MV} {v : MV} {i : Nat} {Q : Unit -> MH -> Prop} (R : Rep g H) (h : g.lst k = some xs) (hi : i < xs.length) (hl : xs.length <= 1000) (q : ∀ H', Rep (g.setL k (xs.set i v)) H' -> Q () H') : W (be (.lst k) (.int i) v) H Q := by
 obtain ⟨t, R⟩ := R
 refine ⟨(), H.putL k (xs.set i v), ?_, q _ ⟨t, R.setL h⟩⟩
 refine obS (R.lst _ _ h).2 ?_
 have fit : fD (i : Int) = true := decide_eq_true (by exact leA (leT (by assumption) (by assumption)) rfl)
 show (if decide ((0 : Int) <= i) && decide ((i : Int) < xs.length) && fD i then some ((), H.putL k (xs.set (i : Int).toNat v)) else none) = _
 rw [if_pos (by rw [fit, decide_eq_true (by exact n0 _), decide_eq_true (by exact clt (aK _ _ 0 0 (.a .x (.n 1)) .y (.a .x (.n 1)) .y rfl hi))]; rfl)]
 rfl
theorem Rep.lstAt {xs : List MV} (R : Rep g H) (h : g.lst k = some xs) : H.lst k = some xs := by
 obtain ⟨t, R⟩ := R
 exact (R.lst _ _ h).2
theorem dM {ns : List Int} {i : Nat} : (bV ns i).length = 2 := rfl
theorem c8 {ns : List Int} {i m : Nat} (R : Rep g H) (h : g.lst k = some (bV ns i)) (hl : ns.length <= 100) (hi : i <= 1000) (hm : 0 < m) (hm2 : m <= 100) (q : ∀ H' j, j < m -> Rep (g.setL k (bV ns (i + 1))) H' -> Q (.int (j : Nat)) H') : W (fn (d + 2) "_law_draw" [.lst k, .int m]) H Q := by
 have res : ∀ a : Int, ∃ j : Nat, j < m /\ Int.fmod a m = (j : Nat) := by
  intro a
  have h1 : 0 <= Int.fmod a m := Int.fmod_nonneg_of_pos a (by exact clt (a := 0) (aK _ 0 0 0 (.a (.n 0) (.n 1)) .x (.a (.n 0) (.n 1)) .x rfl hm))
  have h2 : Int.fmod a m < m := Int.fmod_lt_of_pos a (by exact clt (a := 0) (aK _ 0 0 0 (.a (.n 0) (.n 1)) .x (.a (.n 0) (.n 1)) .x rfl hm))
  exact ⟨(Int.fmod a m).toNat, by omega, by omega⟩
 rw [jk]
 repeat trivial
 refine bT (i := 1) (v := .int i) (R.lstAt h) (by rw [dM]; decide) rfl ?_
 repeat trivial
 refine fU (by exact aK _ 0 0 0 .x (.n 1000) (.a .x (.n 1)) (.n 4611686018427387904) rfl hi) (by decide) ?_
 repeat trivial
 refine gH (i := 1) R h (by rw [dM]; decide) (by rw [dM]; decide) fun H1 R1 => ?_
 have h1 : (g.setL k ((bV ns i).set 1 (.int (i + 1)))).lst k = some (bV ns (i + 1)) := ah
 have g1 : g.setL k ((bV ns i).set 1 (.int (i + 1))) = g.setL k (bV ns (i + 1)) := rfl
 rw [g1] at R1
 have h1 : (g.setL k (bV ns (i + 1))).lst k = some (bV ns (i + 1)) := ah
 repeat trivial
 refine bT (i := 0) (v := .fz (ns.map .int)) (R1.lstAt h1) (by rw [dM]; decide) rfl ?_
 repeat trivial
 refine rP (by rw [List.length_map]; exact leA (by assumption) rfl) ?_
 repeat trivial
 rw [List.length_map]
 refine dW (fun c => ?_) fun c => ?_
 ·have lt : i < ns.length := by have := of_decide_eq_true c; exact aK _ _ 0 0 (.a .x (.n 1)) .y (.a .x (.n 1)) .y rfl (ult this)
  repeat trivial
  refine bT (i := 0) (v := .fz (ns.map .int)) (R1.lstAt h1) (by rw [dM]; decide) rfl ?_
  repeat trivial
  refine oI (v := .int ns[i]) (by rw [List.length_map]; exact leA (by assumption) rfl) (by rw [List.getElem?_map, List.getElem?_eq_getElem lt]; rfl) ?_
  repeat trivial
  obtain ⟨j, j1, j2⟩ := res ns[i]
  refine rN (by exact clt (a := 0) (aK _ _ 0 0 (.a .y (.n 1)) .x (.a (.n 0) (.n 1)) .x rfl j1)) (by exact aK _ 0 0 0 .x (.n 100) (.a .x (.n 1)) (.n 4611686018427387904) rfl hm2) ?_
  rw [j2]
  repeat trivial
  exact q _ j j1 R1
 ·repeat trivial
  have m1 : (5 * (i : Int)).natAbs <= 5000 := by omega
  refine oH (by decide) (by exact aK _ 0 0 0 .x (.n 1000) (.a .x (.n 1)) (.n 4611686018427387904) rfl hi) ?_
  repeat trivial
  refine oH (by exact aK _ 0 0 0 .x (.n 5000) (.a .x (.n 1)) (.n 4611686018427387904) rfl m1) (by exact aK _ 0 0 0 .x (.n 1000) (.a .x (.n 1)) (.n 4611686018427387904) rfl hi) ?_
  have m2 : 0 <= 5 * (i : Int) * i /\ 5 * (i : Int) * i <= 5000 * 1000 := by
   constructor
   ·exact Int.mul_nonneg (by omega) (by exact n0 _)
   ·exact Int.mul_le_mul (by omega) (by exact cle (b := 1000) (aK _ 0 0 0 .x (.n 1000) .x (.n 1000) rfl hi)) (by exact n0 _) (by exact n0 _)
  repeat trivial
  refine oH (by decide) (by exact aK _ 0 0 0 .x (.n 1000) (.a .x (.n 1)) (.n 4611686018427387904) rfl hi) ?_
  repeat trivial
  refine fU (by omega) (by omega) ?_
  repeat trivial
  refine fU (by omega) (by decide) ?_
  repeat trivial
  obtain ⟨j, j1, j2⟩ := res (5 * (i : Int) * i + 3 * i + 1)
  refine rN (by exact clt (a := 0) (aK _ 0 0 0 (.a (.n 0) (.n 1)) .x (.a (.n 0) (.n 1)) .x rfl hm)) (by exact aK _ 0 0 0 .x (.n 100) (.a .x (.n 1)) (.n 4611686018427387904) rfl hm2) ?_
  rw [j2]
  repeat trivial
  exact q _ j j1 R1
end
end
section
variable {g : G} {H : MH} {t : Hid} {Q : MV -> MH -> Prop} {d k : Nat}
theorem bg.addR {r : Rg} {p : Rp} (R : bg g H t) (hk : k < H.next) (hr : g.reg k = none) (hi : H.ins 2 k = some (RF g.root r p))
  (nd : p.kn ≠ p.kc /\ p.kn ≠ p.kh /\ p.kc ≠ p.kh /\ p.ko ≠ p.ku /\ p.ko ≠ p.kt /\ p.ku ≠ p.kt /\ ∀ a, (a = p.kn \/ a = p.kc \/ a = p.kh) -> ∀ b, (b = p.ko \/ b = p.ku \/ b = p.kt) -> a ≠ b)
  (mi : ∀ a, (a = p.kn \/ a = p.kc \/ a = p.kh \/ a = p.ko \/ a = p.ku \/ a = p.kt) -> t.tag a = some .misc /\ g.lst a = none /\ g.dct a = none)
  (dn : H.dct p.kn = some (.s [])) (dc : H.dct p.kc = some (.s [])) (dh : H.dct p.kh = some (.s [])) (lo : H.lst p.ko = some []) (lu : H.lst p.ku = some []) (lt : H.lst p.kt = some [])
  (e1 : r.es = []) (e2 : r.ord = []) (e3 : r.homes = []) (e4 : p.nls = []) (e5 : p.cnt = []) (ok : ROk (g.setR k r) t.made k r p) :
  bg (g.setR k r) H ⟨upd (upd (upd (upd (upd (upd t.tag p.kn (.names k)) p.kc (.counts k)) p.kh (.homes k)) p.ko (.ord k)) p.ku (.emp k)) p.kt (.emp k), (t.setP k p).prv, t.made⟩ := by
 refine ay fun X hX => ?_
 obtain ⟨d1, d2, d3, d4, d5, d6, d7⟩ := nd
 have far : ∀ a, ¬ (a = p.kn \/ a = p.kc \/ a = p.kh \/ a = p.ko \/ a = p.ku \/ a = p.kt) -> upd (upd (upd (upd (upd (upd t.tag p.kn (.names k)) p.kc (.counts k)) p.kh (.homes k)) p.ko (.ord k)) p.ku (.emp k)) p.kt (.emp k) a = t.tag a := by
  intro a ha
  rw [af (fun e => ha (by simp [e])), af (fun e => ha (by simp [e])), af (fun e => ha (by simp [e])), af (fun e => ha (by simp [e])), af (fun e => ha (by simp [e])), af (fun e => ha (by simp [e]))]
 have nx : ∀ {a : Nat} {x : Tag}, t.tag a = some x -> x ≠ .misc -> ¬ (a = p.kn \/ a = p.kc \/ a = p.kh \/ a = p.ko \/ a = p.ku \/ a = p.kt) := fun {a x} ha hx z => by
  rw [(mi a z).1] at ha; obtain rfl := Option.some.inj ha; exact hx rfl
 refine hX ?_
 refine ⟨R.ent, R.ins, fun j xs q => ?_, fun j xs q => ?_, fun j s q => ?_, fun a x q => ?_, R.used, R.made⟩
 ·exact ⟨(far j fun z => by have := (mi j z).2.1; rw [show g.lst j = some xs from q] at this; cases this).trans (R.lst _ _ q).1, (R.lst _ _ q).2⟩
 ·exact ⟨(far j fun z => by have := (mi j z).2.2; rw [show g.dct j = some xs from q] at this; cases this).trans (R.dct _ _ q).1, (R.dct _ _ q).2⟩
 ·by_cases e : j = k
  ·subst e
   have q : upd g.reg j r j = some s := q
   rw [ah] at q
   obtain rfl := Option.some.inj q
   have pp : (Hid.mk (upd (upd (upd (upd (upd (upd t.tag p.kn (.names j)) p.kc (.counts j)) p.kh (.homes j)) p.ko (.ord j)) p.ku (.emp j)) p.kt (.emp j)) (t.setP j p).prv t.made).prv j = p := dm
   rw [pp]
   refine ⟨hk, hi, ?_, ok⟩
   have x1 : ∀ b, (b = p.ko \/ b = p.ku \/ b = p.kt) -> p.kn ≠ b /\ p.kc ≠ b /\ p.kh ≠ b := fun b hb => ⟨d7 _ (.inl rfl) b hb, d7 _ (.inr (.inl rfl)) b hb, d7 _ (.inr (.inr rfl)) b hb⟩
   refine ay fun X hX => ?_
   obtain ⟨a1, a2, a3⟩ := x1 p.ko (.inl rfl)
   obtain ⟨b1, b2, b3⟩ := x1 p.ku (.inr (.inl rfl))
   obtain ⟨c1, c2, c3⟩ := x1 p.kt (.inr (.inr rfl))
   refine hX ?_
   refine ⟨?_, by rw [e4]; exact dn, ?_, by rw [e2]; exact lo, ?_, lu, ?_, lt, ?_, by rw [e5]; exact dc, ?_, by rw [e3]; exact dh, fun x kx q => (by rw [e4] at q; exact nos q), fun x _ => by rw [e1]; rfl⟩
   ·show upd _ _ _ _ = _
    rw [af c1, af b1, af a1, af d2, af d1, ah]
   ·show upd _ _ _ _ = _
    rw [af d5, af d4, ah]
   ·show upd _ _ _ _ = _
    rw [af d6, ah]
   ·exact ah
   ·show upd _ _ _ _ = _
    rw [af c2, af b2, af a2, af d3, ah]
   ·show upd _ _ _ _ = _
    rw [af c3, af b3, af a3, ah]
  ·have q : upd g.reg k r j = some s := q
   refine ay fun X hX => ?_
   rw [af e] at q
   obtain ⟨a, b, c, o⟩ := R.reg j s q
   refine hX ?_
   rw [show (Hid.mk (upd (upd (upd (upd (upd (upd t.tag p.kn (.names k)) p.kc (.counts k)) p.kh (.homes k)) p.ko (.ord k)) p.ku (.emp k)) p.kt (.emp k)) (t.setP k p).prv t.made).prv j = t.prv j from mT e]
   exact ⟨a, b, c.congr fun a x ha hx => ⟨far a (nx ha (fun z => by rw [z] at hx; exact nos hx)), rfl, rfl⟩, ⟨o.kind, o.part, o.made, o.es, o.ord, o.esL, o.ordL, o.nlsL, o.cntL, o.cnts, o.homL, o.num1, o.num2, o.lev1, o.lev2⟩⟩
 ·have six : ∀ b, (b = p.kn \/ b = p.kc \/ b = p.kh \/ b = p.ko \/ b = p.ku \/ b = p.kt) -> b < H.next := fun b hb => R.tag _ _ (mi b hb).1
  by_cases z : (a = p.kn \/ a = p.kc \/ a = p.kh \/ a = p.ko \/ a = p.ku \/ a = p.kt)
  ·exact six a z
  ·exact R.tag a x ((far a z).symm.trans q)
structure pb (c k : Nat) (fs : aY) (g : G) (H : MH) (m : Nat) : Prop where
 b : Bld c k fs g H
 m : ∃ t, bg g H t /\ t.made = m
theorem tL {c m : Nat} {fs fs' : aY} {n : Str} {v : MV} {Q : Unit -> MH -> Prop} (B : pb c k fs g H m) (ok : (okN c n && (ad fs n).isNone) = true) (hl : Nat.ble fs.length 500 = true) (e : oY fs (n, v) fs') (h : ∀ H', pb c k fs' g H' m -> Q () H') : W (ar P0.okF (.ins c k) n v) H Q := by
 obtain ⟨B, t, R, rfl⟩ := B
 have e := e.put (Option.isNone_iff_eq_none.mp (Bool.and_eq_true_iff.mp ok).2)
 have R' : bg g (H.putI c k fs') t := R.off (Nat.le_refl _) (fun c' k' hk h1 h2 h3 => bB fun z => by
  obtain ⟨rfl, rfl⟩ := z
  by_cases e1 : c' = 1
  ·exact h1 e1 B.ent
  ·by_cases e2 : c' = 2
   ·exact h2 e2 B.reg
   ·exact h3 e1 e2 (B.ins _)) (fun _ _ => rfl) fun _ _ => rfl
 exact ⟨_, _, cQ B.at_ (iA (Bool.and_eq_true_iff.mp ok).1) (Nat.le_of_ble_eq_true hl) e, h _ ⟨⟨⟨t, R'⟩, dp, B.lt, B.ent, B.reg, B.ins⟩, t, R', rfl⟩⟩
theorem tX {c m : Nat} {fs : aY} {n : Str} {v : MV} {Q : MV -> MH -> Prop} (B : pb c k fs g H m) (ok : okN c n = true) (e : ad fs n = some v) (h : Q v H) : W (am P0.okF (.ins c k) n) H Q := rT B.b ok e h
theorem jP {c m : Nat} {fs : aY} {xs : List MV} {Q : MV -> MH -> Prop} (B : pb c k fs g H m) (h : ∀ k' H', g.lst k' = none -> g.dct k' = none -> pb c k fs (g.setL k' xs) H' m -> Q (.lst k') H') : W (newL xs) H Q := by
 refine ay fun X hX => ?_
 obtain ⟨B, t, R, rfl⟩ := B
 obtain ⟨_, _, _, a, b, _⟩ := R.none_at (Nat.le_refl _)
 refine hX ?_
 exact ⟨_, _, rfl, h _ _ a b ⟨⟨⟨_, R.newL⟩, B.at_, Nat.lt_succ_of_lt B.lt, B.ent, B.reg, B.ins⟩, _, R.newL, rfl⟩⟩
theorem jQ {c m : Nat} {fs : aY} {xs : MD} {Q : MV -> MH -> Prop} (B : pb c k fs g H m) (h : ∀ k' H', g.lst k' = none -> g.dct k' = none -> pb c k fs (g.setD k' xs) H' m -> Q (.dct k') H') : W (newD xs) H Q := by
 refine ay fun X hX => ?_
 obtain ⟨B, t, R, rfl⟩ := B
 obtain ⟨_, _, _, a, b, _⟩ := R.none_at (Nat.le_refl _)
 refine hX ?_
 exact ⟨_, _, rfl, h _ _ a b ⟨⟨⟨_, R.newD⟩, B.at_, Nat.lt_succ_of_lt B.lt, B.ent, B.reg, B.ins⟩, _, R.newD, rfl⟩⟩
theorem tT {c k' m : Nat} {fs : aY} {r : Rg} {n : Str} {v : MV} {Q : MV -> MH -> Prop} (B : pb c k fs g H m) (h : g.reg k' = some r) (e : ∀ p, ad (RF g.root r p) n = some v) (q : Q v H) : W (am P0.okF (.ins 2 k') n) H Q := gL B.b.rep h e q
theorem tU {c k' : Nat} {fs : aY} {r : Rg} {n : Str} {v : MV} {Q : MV -> MH -> Prop} (B : Bld c k fs g H) (h : g.reg k' = some r) (e : ∀ p, ad (RF g.root r p) n = some v) (q : Q v H) : W (am P0.okF (.ins 2 k') n) H Q := gL B.rep h e q
theorem Bld.addR {r : Rg} {kn ko ku kt kc kh : Nat} {made m : Nat} {g6 : G} (B : pb 2 k (RF g.root r ⟨made, kn, ko, ku, kt, kc, kh, [], []⟩) g6 H m)
  (e6 : g6 = (((((g.setD kn (.s [])).setL ko []).setL ku []).setL kt []).setD kc (.s [])).setD kh (.s []))
  (f1 : g.lst kn = none /\ g.dct kn = none)
  (f2 : (g.setD kn (.s [])).lst ko = none /\ (g.setD kn (.s [])).dct ko = none)
  (f3 : ((g.setD kn (.s [])).setL ko []).lst ku = none /\ ((g.setD kn (.s [])).setL ko []).dct ku = none)
  (f4 : (((g.setD kn (.s [])).setL ko []).setL ku []).lst kt = none /\ (((g.setD kn (.s [])).setL ko []).setL ku []).dct kt = none)
  (f5 : ((((g.setD kn (.s [])).setL ko []).setL ku []).setL kt []).lst kc = none /\ ((((g.setD kn (.s [])).setL ko []).setL ku []).setL kt []).dct kc = none)
  (f6 : (((((g.setD kn (.s [])).setL ko []).setL ku []).setL kt []).setD kc (.s [])).lst kh = none /\ (((((g.setD kn (.s [])).setL ko []).setL ku []).setL kt []).setD kc (.s [])).dct kh = none)
  (e1 : r.es = []) (e2 : r.ord = []) (e3 : r.homes = []) (ok : ROk (g.setR k r) m k r ⟨made, kn, ko, ku, kt, kc, kh, [], []⟩) : Rep (g.setR k r) H := by
 refine ay fun X hX => ?_
 obtain ⟨B, t, R6, rfl⟩ := B
 subst e6
 have un : ∀ {α : Type} {f : Nat -> Option α} {k j : Nat} {v : α}, upd f k v j = none -> j ≠ k /\ f j = none := fun {α f k j v} h => by
  by_cases e : j = k
  ·subst e; rw [ah] at h; cases h
  ·rw [af e] at h; exact ⟨e, h⟩
 obtain ⟨a1, a2⟩ := f1
 obtain ⟨b1, b2⟩ := f2
 obtain ⟨b3, b4⟩ := un (f := g.dct) b2
 obtain ⟨c1, c2⟩ := f3
 obtain ⟨c3, c4⟩ := un (f := g.lst) c1
 obtain ⟨c5, c6⟩ := un (f := g.dct) c2
 obtain ⟨d1, d2⟩ := f4
 obtain ⟨d3, d4⟩ := un (f := upd g.lst ko []) d1
 obtain ⟨d5, d6⟩ := un (f := g.lst) d4
 obtain ⟨d7, d8⟩ := un (f := g.dct) d2
 obtain ⟨e1', e2'⟩ := f5
 obtain ⟨e3', e4'⟩ := un (f := upd (upd g.lst ko []) ku []) e1'
 obtain ⟨e5', e6'⟩ := un (f := upd g.lst ko []) e4'
 obtain ⟨e7', e8'⟩ := un (f := g.lst) e6'
 obtain ⟨e9', e10'⟩ := un (f := g.dct) e2'
 obtain ⟨g1, g2⟩ := f6
 obtain ⟨g3, g4⟩ := un (f := upd (upd g.lst ko []) ku []) g1
 obtain ⟨g5, g6⟩ := un (f := upd g.lst ko []) g4
 obtain ⟨g7, g8⟩ := un (f := g.lst) g6
 obtain ⟨g9, g10⟩ := un (f := upd g.dct kn (.s [])) g2
 obtain ⟨g11, g12⟩ := un (f := g.dct) g10
 have dl : ∀ {α : Type} {f : Nat -> Option α} {k j : Nat} {v w : α}, f k = none -> f j = some w -> upd f k v j = some w := fun {α f k j v w} h h2 => (af (fun e => by rw [e, h] at h2; exact nos h2)).trans h2
 have R : bg g H t := R6.drop rfl rfl rfl rfl (fun _ _ _ h => h) (fun j xs q => dl d1 (dl c1 (dl b1 q))) fun j xs q => dl g2 (dl e2' (dl a2 q))
 have L1 := R6.lst ko [] (dl (f := upd (upd g.lst ko []) ku []) d1 (dl (f := upd g.lst ko []) c1 ah))
 have L2 := R6.lst ku [] (dl (f := upd (upd g.lst ko []) ku []) d1 ah)
 have L3 := R6.lst kt [] ah
 have D1 := R6.dct kn (.s []) (dl (f := upd (upd g.dct kn (.s [])) kc (.s [])) g2 (dl (f := upd g.dct kn (.s [])) e2' ah))
 have D2 := R6.dct kc (.s []) (dl (f := upd (upd g.dct kn (.s [])) kc (.s [])) g2 ah)
 have D3 := R6.dct kh (.s []) ah
 refine hX ?_
 refine ⟨_, R.addR (p := ⟨made, kn, ko, ku, kt, kc, kh, [], []⟩) B.lt B.reg B.at_ ⟨Ne.symm e9', Ne.symm g11, Ne.symm g9, Ne.symm c3, Ne.symm d5, Ne.symm d3, ?_⟩ ?_ D1.2 D2.2 D3.2 L1.2 L2.2 L3.2 e1 e2 e3 rfl rfl ok⟩
 ·rintro a (rfl | rfl | rfl) b (rfl | rfl | rfl)
  ·exact Ne.symm b3
  ·exact Ne.symm c5
  ·exact Ne.symm d7
  ·exact e7'
  ·exact e5'
  ·exact e3'
  ·exact g7
  ·exact g5
  ·exact g3
 ·rintro a (rfl | rfl | rfl | rfl | rfl | rfl)
  ·exact ⟨D1.1, a1, a2⟩
  ·exact ⟨D2.1, e8', e10'⟩
  ·exact ⟨D3.1, g8, g12⟩
  ·exact ⟨L1.1, b1, b4⟩
  ·exact ⟨L2.1, c4, c6⟩
  ·exact ⟨L3.1, d6, d8⟩
end
section
local macro_rules | `(tactic| trivial) => `(tactic| first
 | ((with_reducible apply tT); assumption; assumption; exact fun _ => rfl)
 | ((with_reducible apply tU); assumption; assumption; exact fun _ => rfl)
 | ((with_reducible apply tL); assumption; kernel_rfl; kernel_rfl; (repeat (first | exact oY.nil | with_reducible apply oY.cons)); intro _ _)
 | ((with_reducible apply tX); assumption; kernel_rfl; rfl))
section
variable {g : G} {H : MH} {t : Hid} {Q : MV -> MH -> Prop} {d k : Nat}
theorem pK : ∀ x ∈ RKs, az .In (.str x) (.tup [.str "root", .str "sub", .str "task", .str "protected"]) H = some (.bool (decide (x = "root") || decide (x = "sub")), H) := by
 intro x hx
 rcases List.mem_cons.mp hx with rfl | hx
 ·kernel_rfl
 rcases List.mem_cons.mp hx with rfl | hx
 ·kernel_rfl
 rcases List.mem_cons.mp hx with rfl | hx
 ·kernel_rfl
 rcases List.mem_cons.mp hx with rfl | hx
 ·kernel_rfl
 ·cases hx
theorem sK : ∀ x ∈ RKs, PyData.strOk x = true := by decide +kernel
theorem rR {c : Bool} {a b : MV} (h : Q (if c then a else b) H) : W (if c then ac a else ac b) H Q := by
 cases c
 ·exact bZ h
 ·exact bZ h
noncomputable def au (kind : Str) (owner : MV) (parent : Option Nat) (num lev : Int) : Rg := ⟨kind, owner, parent, num, lev, if decide (kind = "package") then "visible" else "body", [], [], []⟩
noncomputable def aq (kind : Str) : Int := if decide (kind = "root") || decide (kind = "sub") then 1 else 0
set_option tactic.hygienic true in
theorem kX {kind : Str} {owner : MV} {kp : Nat} {rp rr : Rg} (hk : kind ∈ RKs) (R : Rep g H) (hp : g.reg kp = some rp) (hr : g.reg g.root = some rr) (hu : g.used + 2 <= 1000)
  (q : ∀ k H' num, g.reg k = none -> (∀ j s, g.reg j = some s -> s.number < num) -> Rep ((g.setU (g.used + 1)).setR k (au kind owner (some kp) num (rp.level + aq kind))) H' -> Q (.ins 2 k) H') : W (fn (d + 2) "Region" [.str kind, owner, .ins 2 kp]) H Q := by
 rw [iK]
 refine rO R fun k H' B => ?_
 rw [iw]
 have fr := B.reg
 have hp1 : g.reg kp = some rp := hp
 obtain ⟨t0, RT0⟩ := B.rep
 have us := RT0.used
 have ms := RT0.made
 repeat trivial
 rename_i B2
 obtain ⟨t2, RT2⟩ := B2.rep
 have mm := (RT2.reg _ _ hr).2.2.2.made
 rw [if_pos rfl] at mm
 have m3 := RT2.made
 refine oM RT2 hr rfl ?_
 repeat trivial
 refine oT (by exact gk _ _ _ 0 .y (.n 1000) .x .z .z .y (.a .x (.n 1)) (.n 4611686018427387904) rfl us (Nat.le_of_eq mm) m3) (by decide) ?_
 repeat trivial
 refine iV RT2 hr (by exact ltA (by assumption) rfl) fun H3 t3 RT3 m1 m2 n1 i1 => ?_
 have B3 : pb 2 k _ (g.setU (g.used + 1)) H3 (t2.made + 1) := ⟨⟨⟨t3, RT3⟩, (i1 2 k (fun z => by have z2 := z.2; rw [<- z2, fr] at hr; exact nos hr)).trans B2.at_, by rw [n1]; exact B2.lt, B2.ent, B2.reg, B2.ins⟩, t3, RT3, m1⟩
 have hr3 : (g.setU (g.used + 1)).reg (g.setU (g.used + 1)).root = some rr := hr
 have hp3 : (g.setU (g.used + 1)).reg kp = some rp := hp
 repeat trivial
 refine pf (pK kind hk) ?_
 repeat trivial
 refine rR ?_
 rw [show (if (decide (kind = "root") || decide (kind = "sub")) = true then MV.int 1 else MV.int 0) = MV.int (aq kind) from by unfold aq; split <;> rfl]
 have lev : 0 <= rp.level /\ rp.level <= g.used := ⟨(RT0.reg _ _ hp).2.2.2.lev1, (RT0.reg _ _ hp).2.2.2.lev2⟩
 have st : 0 <= aq kind /\ aq kind <= 1 := by unfold aq; split <;> decide
 repeat trivial
 refine fU (by omega) (by omega) ?_
 repeat trivial
 refine gq (sK _ hk) (by decide +kernel) ?_
 repeat trivial
 refine rR ?_
 rw [show (if decide (kind = "package") = true then MV.str "visible" else MV.str "body") = MV.str (if decide (kind = "package") then "visible" else "body") from by split <;> rfl]
 repeat trivial
 rename_i B4
 refine jQ B4 fun kn H5 a1 a2 B5 => ?_
 repeat trivial
 rename_i B6
 refine jP B6 fun ko H6 b1 b2 B7 => ?_
 repeat trivial
 rename_i B8
 refine jP B8 fun ku H7 c1 c2 B9 => ?_
 repeat trivial
 rename_i B10
 refine jP B10 fun kt H8 d1 d2 B11 => ?_
 repeat trivial
 rename_i B12
 refine jQ B12 fun kc H9 e1 e2 B13 => ?_
 repeat trivial
 rename_i B14
 refine jQ B14 fun kh H10 f1 f2 B15 => ?_
 repeat trivial
 rename_i B16
 refine ⟨rfl, q k _ (t3.prv (g.setU (g.used + 1)).root).made fr (fun j s hj => ?_) ?_⟩
 ·have := (RT2.reg j s hj).2.2.2.num2
  show s.number < ((t3.prv g.root).made : Int)
  rw [m2]; omega
 ·refine Bld.addR (g := g.setU (g.used + 1)) (r := au kind owner (some kp) (t3.prv (g.setU (g.used + 1)).root).made (rp.level + aq kind)) (made := 0) (kn := kn) (ko := ko) (ku := ku) (kt := kt) (kc := kc) (kh := kh) B16 rfl ⟨a1, a2⟩ ⟨b1, b2⟩ ⟨c1, c2⟩ ⟨d1, d2⟩ ⟨e1, e2⟩ ⟨f1, f2⟩ rfl rfl rfl ?_
  have kr : ¬ k = g.root := fun z => by rw [z, hr] at fr; cases fr
  have mz : ((t3.prv (g.setU (g.used + 1)).root).made : Int) = t2.made + 1 := by
   show ((t3.prv g.root).made : Int) = t2.made + 1
   rw [m2]; rfl
  refine ⟨hk, ?_, (if_neg kr).symm, (fun _ h => nomatch h), (fun _ h => nomatch h), Nat.zero_le _, Nat.zero_le _, Nat.zero_le _, Nat.zero_le _, (fun _ h => nomatch h), Nat.zero_le _, ?_, ?_, ?_, ?_⟩
  ·show (if decide (kind = "package") then ("visible" : Str) else "body") ∈ PTs
   split <;> decide +kernel
  ·show 1 <= ((t3.prv (g.setU (g.used + 1)).root).made : Int)
   rw [mz]; omega
  ·show ((t3.prv (g.setU (g.used + 1)).root).made : Int) <= ((t2.made + 1 : Nat) : Int)
   rw [mz]; omega
  ·show 0 <= rp.level + aq kind
   omega
  ·show rp.level + aq kind <= ((g.used + 1 : Nat) : Int)
   omega
end
end
section
variable {g : G} {H : MH} {t : Hid} {Q : MV -> MH -> Prop} {d k : Nat}
theorem Bld.noReg {c : Nat} {fs : aY} {rt : Nat} (B : Bld c k fs g H) (h : g.reg = fun _ => none) (hu : 1 <= g.used) : pb c k fs { g with root := rt } H 1 := by
 obtain ⟨⟨t, R⟩, b1, b2, b3, b4, b5⟩ := B
 have no : ∀ {j : Nat} {s : Rg}, g.reg j = some s -> False := fun {j s} q => by rw [h] at q; exact nos q
 have R' : bg { g with root := rt } H { t with made := 1 } := ⟨R.ent, R.ins, R.lst, R.dct, fun j s q => (no q).elim, R.tag, R.used, hu⟩
 exact ⟨⟨⟨_, R'⟩, b1, b2, b3, b4, b5⟩, _, R', rfl⟩
set_option tactic.hygienic true in
theorem i8 (R : Rep g H) (h : g.reg = fun _ => none) (hu : 1 <= g.used) (q : ∀ k H', Rep (G.setR { g with root := k } k (au "root" .none none 1 0)) H' -> Q (.ins 2 k) H') : W (fn (d + 2) "Region" [.str "root", .none, .none]) H Q := by
 rw [iK]
 refine rO R fun k H' B => ?_
 rw [iw]
 repeat trivial
 rename_i B2
 refine oT (by decide) (by decide) ?_
 refine aB ?_
 refine oB (fs' := [("kind", .str "root"), ("owner", .none), ("parent", .none), ("root", .ins 2 k), ("made", .int 1)]) B2 (by kernel_rfl) (by simp) (by kernel_rfl) fun H3 B3 => ?_
 repeat trivial
 refine gq (sK _ (by decide +kernel)) (by decide +kernel) ?_
 repeat trivial
 rename_i B4
 refine ek B4 fun kn H5 a1 a2 B5 => ?_
 repeat trivial
 rename_i B6
 refine hZ B6 fun ko H6 b1 b2 B7 => ?_
 repeat trivial
 rename_i B8
 refine hZ B8 fun ku H7 c1 c2 B9 => ?_
 repeat trivial
 rename_i B10
 refine hZ B10 fun kt H8 d1 d2 B11 => ?_
 repeat trivial
 rename_i B12
 refine ek B12 fun kc H9 e1 e2 B13 => ?_
 repeat trivial
 rename_i B14
 refine ek B14 fun kh H10 f1 f2 B15 => ?_
 repeat trivial
 rename_i B16
 refine ⟨rfl, q k _ ?_⟩
 refine Bld.addR (g := { g with root := k }) (r := au "root" .none none 1 0) (made := 1) (kn := kn) (ko := ko) (ku := ku) (kt := kt) (kc := kc) (kh := kh) (B16.noReg h hu) rfl ⟨a1, a2⟩ ⟨b1, b2⟩ ⟨c1, c2⟩ ⟨d1, d2⟩ ⟨e1, e2⟩ ⟨f1, f2⟩ rfl rfl rfl ?_
 refine ⟨by show ("root" : Str) ∈ RKs; decide +kernel, by show (if decide (("root" : Str) = "package") then ("visible" : Str) else "body") ∈ PTs; decide +kernel, (if_pos rfl).symm, (fun _ h => nomatch h), (fun _ h => nomatch h), Nat.zero_le _, Nat.zero_le _, Nat.zero_le _, Nat.zero_le _, (fun _ h => nomatch h), Nat.zero_le _, Int.le_refl _, Int.le_refl _, Int.le_refl _, ?_⟩
 show (0 : Int) <= (g.used : Nat)
 exact n0 _
theorem lZ (R : Rep g H) (h : g.reg = fun _ => none) (hu : 1 <= g.used) (q : ∀ k H', Rep (G.setR { g with root := k } k (au "root" .none none 1 0)) H' -> Q (.ins 2 k) H') : W (fn (d + 3) "open_region" [.str "root", .none, .none]) H Q := by
 rw [cg]
 repeat trivial
 refine i8 R h hu fun k H' R' => ?_
 repeat trivial
 exact q k H' R'
theorem gJ {kind : Str} {kp : Nat} {rp rr : Rg} (hk : kind ∈ RKs) (R : Rep g H) (hp : g.reg kp = some rp) (hr : g.reg g.root = some rr) (hu : g.used + 2 <= 1000)
  (q : ∀ k H' num, g.reg k = none -> (∀ j s, g.reg j = some s -> s.number < num) -> Rep ((g.setU (g.used + 1)).setR k (au kind .none (some kp) num (rp.level + aq kind))) H' -> Q (.ins 2 k) H') : W (fn (d + 3) "open_region" [.str kind, .none, .ins 2 kp]) H Q := by
 rw [cg]
 repeat trivial
 refine kX hk R hp hr hu fun k H' num h1 h2 R' => ?_
 repeat trivial
 exact q k H' num h1 h2 R'
theorem tN {kind : Str} {kp e : Nat} {rp rr : Rg} {re : Er} (hk : kind ∈ RKs) (R : Rep g H) (hp : g.reg kp = some rp) (hr : g.reg g.root = some rr) (he : g.ent e = some re) (hu : g.used + 2 <= 1000)
  (q : ∀ k H' num, g.reg k = none -> (∀ j s, g.reg j = some s -> s.number < num) -> Rep (((g.setU (g.used + 1)).setR k (au kind (.ins 1 e) (some kp) num (rp.level + aq kind))).setE e (re.wR (.ins 2 k))) H' -> Q (.ins 2 k) H') : W (fn (d + 3) "open_region" [.str kind, .ins 1 e, .ins 2 kp]) H Q := by
 rw [cg]
 repeat trivial
 refine kX hk R hp hr hu fun k H' num h1 h2 R' => ?_
 have he' : ((g.setU (g.used + 1)).setR k (au kind (.ins 1 e) (some kp) num (rp.level + aq kind))).ent e = some re := he
 repeat trivial
 refine bz (r' := (re.wR (.ins 2 k))) R' he' (by kernel_rfl) rfl rfl (fun o => { o with }) fun H2 R2 => ?_
 repeat trivial
 exact q k H2 num h1 h2 R2
noncomputable def dY (x : Str) (ks : Nat) : Er := ⟨"type", x, none, .ins 4 ks, .none, .int 1, 0, "", none, "", .none, .none, false, true, false, false, false⟩
noncomputable def G.tell (g : G) (e k : Nat) (re : Er) (r' rr' : Rg) : G := ((((g.setE e re).setR k r').setU (g.used + 4)).setR g.root rr').setU (g.used + 5)
theorem G.tell_root {e k0 : Nat} {re : Er} {r' rr' : Rg} (h : g.root = k0) : (g.tell e k re r' rr').reg k0 = some rr' := by subst h; exact ah
theorem G.tell_k {e k0 : Nat} {re : Er} {r' rr' : Rg} (h : g.root = k0) (n : k ≠ k0) : (g.tell e k re r' rr').reg k = some r' := by subst h; exact (af n).trans ah
theorem G.tell_ne {e k0 j : Nat} {re : Er} {r' rr' : Rg} (h : g.root = k0) (n : j ≠ k0) (n' : j ≠ k) : (g.tell e k re r' rr').reg j = g.reg j := by subst h; exact (af n).trans (af n')
theorem oy {x : Str} {ks kt n : Nat} {c : MV} {r rr : Rg} {tr : Tr} (hx : x ∈ NMs) (R : Rep g H) (h : g.reg k = some r) (hr : g.reg g.root = some rr) (hs : g.ins 4 ks = some (StF kt c)) (ht : g.ins 3 kt = some (TF tr)) (F : Fr g k n) (hn : n < 19) (hu : g.used + 20 <= 1000) (hsel : sel x r.es = []) (hh : aA rr.homes tr.number = none)
  (q : ∀ H' e num u rr2, g.ent e = none -> PyData.strOk u = true -> (g.setR k (aj r x e)).reg g.root = some rr2 -> Rep (g.tell e k (aF (dY x ks) k r num u) (aj r x e) (rr2.wHom tr.number (k, r.part))) H' -> Q (.ins 1 e) H') : W (fn (d + 6) "_law_tell" [.ins 2 k, .str x, .ins 4 ks]) H Q := by
 rw [jj]
 repeat trivial
 refine eZ (key := none) (by decide +kernel) hx R fun e H1 f1 R1 => ?_
 have he1 : (g.setE e (newE "type" x none (.ins 4 ks) .none (.int 1))).ent e = some (newE "type" x none (.ins 4 ks) .none (.int 1)) := ah
 repeat trivial
 refine bz (r' := dY x ks) R1 he1 (by kernel_rfl) (by kernel_rfl) rfl (fun o => ⟨o.kind, o.name, o.part, o.uniq⟩) fun H2 R2 => ?_
 rw [aX] at R2
 have he2 : (g.setE e (dY x ks)).ent e = some (dY x ks) := ah
 have h2 : (g.setE e (dY x ks)).reg k = some r := h
 have hr2 : (g.setE e (dY x ks)).reg (g.setE e (dY x ks)).root = some rr := hr
 repeat trivial
 refine dB (n := n) R2 h2 hr2 he2 (F.mono fun j s hj => ⟨s, hj, rfl, rfl⟩) hn (by show g.used + 10 <= 1000; exact wT (by assumption) rfl rfl) (fun o ho => by rw [show (dY x ks).name = x from rfl, hsel] at ho; cases ho) fun H3 num u su R3 => ?_
 have R3 : Rep (((g.setE e (aF (dY x ks) k r num u)).setR k (aj r x e)).setU (g.used + 4)) H3 := by
  have z : ((((g.setE e (dY x ks)).setE e (aF (dY x ks) k r num u)).setR k (aj r (dY x ks).name e)).setU ((g.setE e (dY x ks)).used + 4)) = (((g.setE e (aF (dY x ks) k r num u)).setR k (aj r x e)).setU (g.used + 4)) := by rw [aX]; rfl
  exact z ▸ R3
 have hs3 : (((g.setE e (aF (dY x ks) k r num u)).setR k (aj r x e)).setU (g.used + 4)).ins 4 ks = some (StF kt c) := hs
 have ht3 : (((g.setE e (aF (dY x ks) k r num u)).setR k (aj r x e)).setU (g.used + 4)).ins 3 kt = some (TF tr) := ht
 have h3 : (((g.setE e (aF (dY x ks) k r num u)).setR k (aj r x e)).setU (g.used + 4)).reg k = some (aj r x e) := ah
 have h3r : ∃ rr2, (g.setR k (aj r x e)).reg g.root = some rr2 /\ rr2.homes = rr.homes := by
  by_cases z : g.root = k
  ·rw [z] at hr ⊢
   rw [h] at hr; obtain rfl := Option.some.inj hr
   exact ⟨aj r x e, ah, rfl⟩
  ·exact ⟨rr, (af z).trans hr, rfl⟩
 obtain ⟨rr2, r1, r2⟩ := h3r
 repeat trivial
 refine vI (rr := rr2) R3 h3 r1 (by rw [r2]; exact hh) (by show g.used + 4 + 1 <= 1000; exact aK _ 0 0 0 (.a .x (.n 20)) (.n 1000) (.a (.a .x (.n 4)) (.n 1)) (.n 1000) rfl hu) fun H4 R4 => ?_
 repeat trivial
 exact q H4 e num u rr2 f1 su r1 R4
noncomputable def ga (x : Str) : Er := ⟨"package", x, none, .none, .none, .int 1, 0, "", none, "", .none, .none, false, false, false, false, false⟩
noncomputable def G.pack (g : G) (e k kn : Nat) (re : Er) (r' rn : Rg) : G := (((g.setE e re).setR k r').setU (g.used + 5)).setR kn rn
noncomputable def wC (x : Str) (k : Nat) (r : Rg) (num : Int) (u : Str) (kn : Nat) : Er := (aF (ga x) k r num u).wR (.ins 2 kn)
theorem iW {x : Str} {n : Nat} {r rr : Rg} (hx : x ∈ NMs) (R : Rep g H) (h : g.reg k = some r) (hr : g.reg g.root = some rr) (F : Fr g k n) (hn : n < 19) (hu : g.used + 20 <= 1000) (hsel : sel x r.es = [])
  (q : ∀ H' e num u kn numr, g.ent e = none -> PyData.strOk u = true -> g.reg kn = none -> (∀ j s, g.reg j = some s -> s.number < numr) -> Rep (g.pack e k kn (wC x k r num u kn) (aj r x e) (au "package" (.ins 1 e) (some k) numr r.level)) H' -> Q (.ins 2 kn) H') : W (fn (d + 6) "_law_package" [.str x, .ins 2 k]) H Q := by
 rw [gg]
 repeat trivial
 refine eZ (key := none) (by decide +kernel) hx R fun e H1 f1 R1 => ?_
 have R1 : Rep (g.setE e (ga x)) H1 := R1
 have he2 : (g.setE e (ga x)).ent e = some (ga x) := ah
 have h2 : (g.setE e (ga x)).reg k = some r := h
 have hr2 : (g.setE e (ga x)).reg (g.setE e (ga x)).root = some rr := hr
 repeat trivial
 refine dB (n := n) R1 h2 hr2 he2 (F.mono fun j s hj => ⟨s, hj, rfl, rfl⟩) hn (by show g.used + 10 <= 1000; exact wT (by assumption) rfl rfl) (fun o ho => by rw [show (ga x).name = x from rfl, hsel] at ho; cases ho) fun H3 num u su R3 => ?_
 have R3 : Rep (((g.setE e (aF (ga x) k r num u)).setR k (aj r x e)).setU (g.used + 4)) H3 := by
  have z : ((((g.setE e (ga x)).setE e (aF (ga x) k r num u)).setR k (aj r (ga x).name e)).setU ((g.setE e (ga x)).used + 4)) = (((g.setE e (aF (ga x) k r num u)).setR k (aj r x e)).setU (g.used + 4)) := by rw [aX]; rfl
  exact z ▸ R3
 have h3 : (((g.setE e (aF (ga x) k r num u)).setR k (aj r x e)).setU (g.used + 4)).reg k = some (aj r x e) := ah
 have he3 : (((g.setE e (aF (ga x) k r num u)).setR k (aj r x e)).setU (g.used + 4)).ent e = some (aF (ga x) k r num u) := ah
 have h3r : ∃ rr2, (g.setR k (aj r x e)).reg g.root = some rr2 := by
  by_cases z : g.root = k
  ·rw [z]; exact ⟨aj r x e, ah⟩
  ·exact ⟨rr, (af z).trans hr⟩
 obtain ⟨rr2, r1⟩ := h3r
 repeat trivial
 refine tN (rr := rr2) (by decide +kernel) R3 h3 r1 he3 (by show g.used + 4 + 2 <= 1000; exact aK _ 0 0 0 (.a .x (.n 20)) (.n 1000) (.a (.a .x (.n 4)) (.n 2)) (.n 1000) rfl hu) fun kn H4 numr k1 k2 R4 => ?_
 repeat trivial
 have kne : kn ≠ k := fun z => by rw [z, h3] at k1; cases k1
 refine q H4 e num u kn numr f1 su ((af kne).symm.trans k1) (fun j s hj => ?_) ?_
 ·by_cases z : j = k
  ·subst z
   rw [h] at hj; obtain rfl := Option.some.inj hj
   exact k2 j (aj r x e) ah
  ·exact k2 j s ((af z).trans hj)
 ·have z : ((((((g.setE e (aF (ga x) k r num u)).setR k (aj r x e)).setU (g.used + 4)).setU (g.used + 4 + 1)).setR kn (au "package" (.ins 1 e) (some k) numr ((aj r x e).level + aq "package"))).setE e ((aF (ga x) k r num u).wR (.ins 2 kn))) = (((((g.setE e ((aF (ga x) k r num u).wR (.ins 2 kn))).setR k (aj r x e)).setU (g.used + 5)).setR kn (au "package" (.ins 1 e) (some k) numr r.level))) := by
   have l : (aj r x e).level + aq "package" = r.level := by
    have : aq "package" = 0 := by decide +kernel
    rw [this]; exact Int.add_zero _
   rw [l]
   unfold G.setR G.setU G.setE
   simp only [df]
  exact (congrArg (Rep · H4) z).mp R4
end
section
variable {g : G} {H : MH} {t : Hid} {Q : MV -> MH -> Prop} {d k : Nat}
noncomputable def COk (c : MV) : Prop := c = .none \/ ∃ a b : Int, c = .tup [.str "range", .int a, .int b]
theorem aU {xs : List MV} {v : MV} {i : Nat} (hl : xs.length <= 10000) (hi : xs[i]? = some v) (q : Q v H) : W (aw (.tup xs) (.int i)) H Q := ⟨v, H, fA (o := .tup xs) rfl hl hi, q⟩
theorem vO {xs : List MV} (hl : xs.length <= 10000) (q : Q (.int xs.length) H) : W (aG "len" [.tup xs]) H Q := by
 have e : aG "len" [.tup xs] = uv (.tup xs) := by kernel_rfl
 rw [e]
 exact ⟨_, _, if_pos (decide_eq_true hl), q⟩
theorem oJ {R : Type} {i : Int} {m : M R} {Q : R -> MH -> Prop} (q : W m H Q) : W (eB (.int i) m) H Q := q
theorem oz {kt : Nat} {c : MV} (R : Rep g H) (h : g.ins 4 k = some (StF kt c)) (hc : COk c) (q : Q (.bool true) H) : W (fn (d + 2) "is_settled" [.ins 4 k]) H Q := by
 rw [gR]
 rcases hc with rfl | ⟨a, b, rfl⟩
 ·repeat trivial
 ·repeat trivial
  refine aU (i := 0) (by simp) rfl ?_
  repeat trivial
  refine gq (by decide +kernel) (by decide +kernel) ?_
  repeat trivial
  refine aU (i := 0) (by simp) rfl ?_
  repeat trivial
  refine gq (by decide +kernel) (by decide +kernel) ?_
  repeat trivial
  refine vO (by simp) ?_
  repeat trivial
  refine aU (i := 1) (by simp) rfl ?_
  repeat trivial
  refine oJ ?_
  repeat trivial
  refine aU (i := 2) (by simp) rfl ?_
  repeat trivial
  refine oJ ?_
  repeat trivial
noncomputable def sw (n m x : Int) : Int := if x = n then m else x
inductive P1 (g : G) (bnd : MV) (s : Nat) (n : Int) : Prop
 | mk (kt r c) (h1 : g.ins 4 s = some (StF kt c)) (h2 : g.ins 3 kt = some (TF r)) (h3 : r.number = n) (h4 : COk c) (h5 : (n ≠ 61 -> c = bnd)) (h6 : 0 <= n) : P1 g bnd s n
noncomputable def G.wi (g : G) (i : Nat -> Nat -> Option aY) : G := { g with ins := i }
noncomputable def wX (g : G) (i : Nat -> Nat -> Option aY) : Prop := ∀ c k fs, g.ins c k = some fs -> i c k = some fs
theorem P1.mono {bnd : MV} {s : Nat} {n : Int} {g' : G} (p : P1 g bnd s n) (h : ∀ c k fs, g.ins c k = some fs -> g'.ins c k = some fs) : P1 g' bnd s n := by
 obtain ⟨kt, r, c, a, b, x1, x2, x3, x4⟩ := p
 exact ⟨kt, r, c, h _ _ _ a, h _ _ _ b, x1, x2, x3, x4⟩
theorem aN {c : Nat} {fs : aY} (h : g.ins c k = none) : wX g (g.setI c k fs).ins := fun c' k' fs' q => by
 show (if c' = c then upd (g.ins c) k fs else g.ins c') k' = some fs'
 by_cases e : c' = c
 ·subst e
  rw [if_pos rfl]
  exact (af (fun z => by rw [z, h] at q; exact nos q)).trans q
 ·rw [if_neg e]; exact q
inductive Drv (g : G) (kt kp : Nat) (n m : Int) : Prop
 | mk (tr pr) (h1 : g.ins 3 kt = some (TF tr)) (h2 : tr.number = m) (h3 : tr.tagged = false) (h4 : g.ins 3 kp = some (TF pr)) (h5 : pr.number = n) (h6 : m ≠ n) (h7 : n ≠ 61) (h8 : 0 <= m) (h9 : 0 <= n) : Drv g kt kp n m
theorem Drv.mono {kt kp : Nat} {n m : Int} {g' : G} (D : Drv g kt kp n m) (h : ∀ c k fs, g.ins c k = some fs -> g'.ins c k = some fs) : Drv g' kt kp n m := by
 obtain ⟨tr, pr, a, b, c, e, f1, f2, f3, f4, f5⟩ := D
 exact ⟨tr, pr, h _ _ _ a, b, c, h _ _ _ e, f1, f2, f3, f4, f5⟩
theorem i7 {bnd : MV} {s kt kp : Nat} {n m n0 : Int} (R : Rep g H) (P : P1 g bnd s n0) (D : Drv g kt kp n m)
  (q : ∀ H' i s', wX g i -> Rep (g.wi i) H' -> P1 (g.wi i) bnd s' (sw n m n0) -> Q (.ins 4 s') H') : W (fn (d + 4) "changed_subtype" [.ins 4 s, .ins 3 kt, .ins 3 kp]) H Q := by
 have P' := P
 obtain ⟨k0, r0, c, a1, a2, a3, a4, a5, a6⟩ := P
 obtain ⟨tr, pr, b1, b2, b3, b4, b5, b6, b7, b8, b9⟩ := D
 rw [cb]
 repeat trivial
 by_cases e : r0.number = pr.number
 ·rw [decide_eq_true e]
  repeat trivial
  rw [decide_eq_false (by rw [b2, b5]; exact b6)]
  repeat trivial
  rw [b3]
  repeat trivial
  refine oz R a1 a4 ?_
  repeat trivial
  refine fV R fun k H' fr R' => ?_
  repeat trivial
  have gr := aN (fs := StF kt c) fr
  have sv : sw n m n0 = m := by unfold sw; rw [if_pos (by rw [<- a3, e, b5])]
  refine q H' _ k gr R' ?_
  rw [sv]
  exact ⟨kt, tr, c, aO, gr _ _ _ b1, b2, a4, fun _ => a5 (by rw [<- a3, e, b5]; exact b7), b8⟩
 ·rw [decide_eq_false e]
  repeat trivial
  have sv : sw n m n0 = n0 := by unfold sw; rw [if_neg (fun z => e (by rw [a3, z, b5]))]
  refine q H g.ins s (fun _ _ _ h => h) R ?_
  rw [sv]
  exact P'
theorem ma {kt kp : Nat} (q : Q .none H) : W (fn (d + 4) "changed_subtype" [.none, .ins 3 kt, .ins 3 kp]) H Q := by
 rw [cb]
 repeat trivial
end
section
variable {g : G} {H : MH} {t : Hid} {Q : MV -> MH -> Prop} {d k : Nat}
inductive fY {α β : Type} (R : α -> β -> Prop) : List α -> List β -> Prop
 | nil : fY R [] []
 | cons {a : α} {b : β} {as : List α} {bs : List β} : R a b -> fY R as bs -> fY R (a :: as) (b :: bs)
theorem fY.mono {α β : Type} {R R' : α -> β -> Prop} {as : List α} {bs : List β} (h : fY R as bs) (k : ∀ a b, R a b -> R' a b) : fY R' as bs := by
 induction h with
 | nil => exact .nil
 | cons a _ ih => exact .cons (k _ _ a) ih
theorem fY.snoc {α β : Type} {R : α -> β -> Prop} {as : List α} {bs : List β} {a : α} {b : β} (h : fY R as bs) (r : R a b) : fY R (as ++ [a]) (bs ++ [b]) := by
 induction h with
 | nil => exact .cons r .nil
 | cons a _ ih => exact .cons a ih
theorem fY.len {α β : Type} {R : α -> β -> Prop} {as : List α} {bs : List β} (h : fY R as bs) : as.length = bs.length := by
 induction h with
 | nil => rfl
 | cons a _ ih => rw [List.length_cons, List.length_cons, ih]
theorem fY.get {α β : Type} {R : α -> β -> Prop} {as : List α} {bs : List β} (h : fY R as bs) : ∀ (j : Nat) (a : α), as[j]? = some a -> ∃ b, bs[j]? = some b /\ R a b := by
 induction h with
 | nil => intro j a e; simp at e
 | cons r _ ih =>
  intro j a e
  cases j with
  | zero => simp at e; subst e; exact ⟨_, rfl, r⟩
  | succ j =>
   simp at e
   obtain ⟨b, e1, e2⟩ := ih j a e
   exact ⟨b, by simpa using e1, e2⟩
noncomputable def gb (p : Str × Nat) : MV := .tup [.str p.1, .str "in", .ins 4 p.2, .none]
structure Sig (g : G) (bnd : MV) (sr : Sr) (ns : List Int) (a : Int) : Prop where
 ps : ∃ ps : List (Str × Nat), sr.params = .fz (ps.map gb) /\ fY (fun p n => P1 g bnd p.2 n) ps ns /\ ps.length <= 100
 res : (sr.result = .none /\ a = -1) \/ ∃ s, sr.result = .ins 4 s /\ P1 g bnd s a
theorem Sig.mono {bnd : MV} {sr : Sr} {ns : List Int} {a : Int} {g' : G} (S : Sig g bnd sr ns a) (h : ∀ c k fs, (c = 3 \/ c = 4) -> g.ins c k = some fs -> g'.ins c k = some fs) : Sig g' bnd sr ns a := by
 obtain ⟨⟨ps, p1, p2, p3⟩, r⟩ := S
 have m : ∀ {s : Nat} {n : Int}, P1 g bnd s n -> P1 g' bnd s n := fun {s n} p => by
  obtain ⟨kt, r, c, a, b, x1, x2, x3, x4⟩ := p
  exact ⟨kt, r, c, h _ _ _ (.inr rfl) a, h _ _ _ (.inl rfl) b, x1, x2, x3, x4⟩
 refine ⟨⟨ps, p1, p2.mono fun _ _ p => m p, p3⟩, ?_⟩
 rcases r with r | ⟨s, r1, r2⟩
 ·exact .inl r
 ·exact .inr ⟨s, r1, m r2⟩
theorem a0 {c c' k' : Nat} {fs : aY} (h : c' ≠ c) : (g.setI c k fs).ins c' k' = g.ins c' k' := by
 show (if c' = c then upd (g.ins c) k fs else g.ins c') k' = _
 rw [if_neg h]
theorem P1.set0 {bnd : MV} {s : Nat} {n : Int} {fs : aY} (p : P1 g bnd s n) : P1 (g.setI 0 k fs) bnd s n := by
 obtain ⟨kt, r, c, a, b, x1, x2, x3, x4⟩ := p
 exact ⟨kt, r, c, (a0 (by decide)).trans a, (a0 (by decide)).trans b, x1, x2, x3, x4⟩
theorem Drv.set0 {kt kp : Nat} {n m : Int} {fs : aY} (D : Drv g kt kp n m) : Drv (g.setI 0 k fs) kt kp n m := by
 obtain ⟨tr, pr, a, b, c, e, f1, f2, f3, f4, f5⟩ := D
 exact ⟨tr, pr, (a0 (by decide)).trans a, b, c, (a0 (by decide)).trans e, f1, f2, f3, f4, f5⟩
theorem qH {xs : List MV} (hl : xs.length <= 10000) (q : Q (.tup xs) H) : W (aG "tuple" [.fz xs]) H Q := by
 have e : aG "tuple" [.fz xs] = wA (.fz xs) := by kernel_rfl
 rw [e]
 exact ⟨_, _, if_pos (decide_eq_true hl), q⟩
noncomputable def kH (x : Str) (key : List Int × Int) (res : MV) (ks : Nat) : Er := ⟨"sub", x, some key, res, .ins 0 ks, .int 1, 0, "", none, "", .none, .none, false, true, false, true, false⟩
theorem jS {bnd : MV} {o so ksc kt kp : Nat} {ro : Er} {sr : Sr} {sc : Scr} {ns : List Int} {a n m : Int} (R : Rep g H) (ho : g.ent o = some ro) (hd : ro.data = .ins 0 so) (hs : g.ins 0 so = some (SF sr)) (S : Sig g bnd sr ns a) (hsc : g.ins 5 ksc = some (ScF sc)) (D : Drv g kt kp n m)
  (q : ∀ H' i e ks sr', (∀ c k fs, g.ins c k = some fs -> i c k = some fs) -> g.ent e = none -> i 0 ks = some (SF sr') -> Sig (g.wi i) bnd sr' (ns.map (sw n m)) (sw n m a) -> Rep ((g.wi i).setE e (kH ro.name (ns.map (sw n m), sw n m a) sr'.result ks)) H' -> Q (.ins 1 e) H') : W (fn (d + 5) "inherited_entity" [.ins 5 ksc, .ins 1 o, .ins 3 kt, .ins 3 kp]) H Q := by
 refine ay fun X hX => ?_
 obtain ⟨⟨ps, s1, s2, s3⟩, s4⟩ := S
 refine hX ?_
 rw [dk]
 repeat (first | trivial | rw [hd])
 refine wk R fun ks H1 r0 fr rn R1 => ?_
 have gr1 := aN (fs := SF r0) fr
 generalize hg1 : g.setI 0 ks (SF r0) = g1 at R1
 have gi1 : ∀ c k fs, g.ins c k = some fs -> g1.ins c k = some fs := by subst hg1; exact gr1
 have ge1 : g1.ent = g.ent := by subst hg1; rfl
 have gw1 : ∀ i, g1.wi i = g.wi i := by subst hg1; intro i; rfl
 have ks1 : g1.ins 0 ks = some (SF r0) := by subst hg1; exact aO
 have D1 := D.mono gi1
 have ho1 : g1.ent o = some ro := by rw [ge1]; exact ho
 have hs1 := gi1 _ _ _ hs
 have s2 : fY (fun (p : Str × Nat) n => P1 g1 bnd p.2 n) ps ns := s2.mono fun _ _ p => p.mono gi1
 have s4 : (sr.result = .none /\ a = -1) \/ ∃ s, sr.result = .ins 4 s /\ P1 g1 bnd s a := by
  rcases s4 with r | ⟨s, r1, r2⟩
  ·exact .inl r
  ·exact .inr ⟨s, r1, r2.mono gi1⟩
 repeat (first | trivial | rw [hd] | rw [s1])
 refine bm (by rw [List.length_map]; exact leA (by assumption) rfl) fun s hn hi => ?_
 repeat trivial
 refine fR (ps.map gb) (fun j ys H' => ∃ i ps', wX g1 i /\ Rep (g1.wi i) H' /\ ys = ps'.map gb /\ fY (fun (p : Str × Nat) n => P1 (g1.wi i) bnd p.2 n) ps' ((ns.take j).map (sw n m))) hn ⟨g1.ins, [], fun _ _ _ h => h, R1, rfl, .nil⟩ (fun j ys H' p => hi H') (fun j v ys H' hv p => ?_) fun ys H' p => ?_
 ·obtain ⟨i, ps', i1, i2, rfl, i4⟩ := p
  refine ay fun X hX => ?_
  rw [List.getElem?_map] at hv
  obtain ⟨p, hp, rfl⟩ := Option.map_eq_some_iff.mp hv
  obtain ⟨n0, hn0, P0⟩ := s2.get j p hp
  refine hX ?_
  repeat trivial
  refine aU (i := 0) (by simp) rfl ?_
  repeat trivial
  refine aU (i := 1) (by simp) rfl ?_
  repeat trivial
  refine aU (i := 2) (by simp) rfl ?_
  repeat trivial
  refine i7 i2 (P0.mono i1) (D1.mono i1) fun H2 i' s' j1 j2 j3 => ?_
  repeat trivial
  refine aU (i := 3) (by simp) rfl ?_
  repeat trivial
  refine ⟨i', ps' ++ [(p.1, s')], fun c k fs h => j1 _ _ _ (i1 _ _ _ h), j2, by rw [List.map_append]; rfl, ?_⟩
  rw [List.take_add_one, hn0, List.map_append]
  exact (i4.mono fun _ _ p => p.mono (g' := g1.wi i') j1).snoc j3
 obtain ⟨i, ps', i1, i2, rfl, i4⟩ := p
 have lp : ps'.length <= 100 := by
  have := i4.len
  have := s2.len
  rw [List.length_map, List.length_map, <- this] at *
  simp at *
  omega
 rw [List.length_map, s2.len, List.take_length] at i4
 have ks2 : (g1.wi i).ins 0 ks = some (SF r0) := i1 _ _ _ ks1
 refine eY (by rw [List.length_map]; exact leA (by assumption) rfl) ?_
 repeat trivial
 refine gI (fs' := SF (r0.wPs (.fz (ps'.map gb)))) i2 ks2 (by kernel_rfl) (by kernel_rfl) (oZ _) fun H3 R3 => ?_
 have ne : so ≠ ks := fun z => by rw [z, fr] at hs; exact nos hs
 generalize hg3 : (g1.wi i).setI 0 ks (SF (r0.wPs (.fz (ps'.map gb)))) = g3 at R3
 have i4 : fY (fun (p : Str × Nat) n => P1 g3 bnd p.2 n) ps' (ns.map (sw n m)) := by subst hg3; exact i4.mono fun _ _ p => p.set0
 have D3 : Drv g3 kt kp n m := by subst hg3; exact (show Drv (g1.wi i) kt kp n m from D1.mono i1).set0
 have gr3 : ∀ c k fs, g.ins c k = some fs -> g3.ins c k = some fs := fun c k fs h => by
  subst hg3
  by_cases z : c = 0 /\ k = ks
  ·rw [z.1, z.2, fr] at h; exact nos h
  ·show (if c = 0 then upd ((g1.wi i).ins 0) ks _ else (g1.wi i).ins c) k = some fs
   by_cases z1 : c = 0
   ·subst z1
    rw [if_pos rfl]
    exact (af fun w => z ⟨rfl, w⟩).trans (i1 _ _ _ (gi1 _ _ _ h))
   ·rw [if_neg z1]; exact i1 _ _ _ (gi1 _ _ _ h)
 have ge3 : g3.ent = g.ent := by subst hg3; exact ge1
 have gw3 : ∀ i, g3.wi i = g.wi i := by subst hg3; intro j; exact gw1 j
 have ks3 : g3.ins 0 ks = some (SF (r0.wPs (.fz (ps'.map gb)))) := by subst hg3; exact aO
 have s4 : (sr.result = .none /\ a = -1) \/ ∃ s, sr.result = .ins 4 s /\ P1 g3 bnd s a := by
  rcases s4 with r | ⟨s, r1, r2⟩
  ·exact .inl r
  ·exact .inr ⟨s, r1, by subst hg3; exact (show P1 (g1.wi i) bnd s a from r2.mono i1).set0⟩
 have ho3 : g3.ent o = some ro := by rw [ge3]; exact ho
 have hs3 := gr3 _ _ _ hs
 have hsc3 := gr3 _ _ _ hsc
 clear hg3 R1 hs1 D1 gi1 i2 i1 ks1 ks2 ho1 hg1 gr1
 repeat (first | trivial | rw [hd])
 refine aI (Q := fun v H' => ∃ i', wX g3 i' /\ Rep (g3.wi i') H' /\ ((v = .none /\ sw n m a = -1) \/ ∃ s', v = .ins 4 s' /\ P1 (g3.wi i') bnd s' (sw n m a))) ?_ ?_
 ·rcases s4 with ⟨r1, r2⟩ | ⟨s, r1, r2⟩
  ·rw [r1]
   have nn : 0 <= n := by obtain ⟨_, _, _, _, _, _, _, _, _, _, x⟩ := D3; exact x
   refine ma ⟨g3.ins, fun _ _ _ h => h, R3, .inl ⟨rfl, ?_⟩⟩
   unfold sw
   rw [if_neg (by omega)]
   exact r2
  ·rw [r1]
   exact i7 R3 r2 D3 fun H2 i' s' j1 j2 j3 => ⟨i', j1, j2, .inr ⟨s', rfl, j3⟩⟩
 rintro v H4 ⟨i', j1, R4, hv⟩
 have ks4 : (g3.wi i').ins 0 ks = some (SF (r0.wPs (.fz (ps'.map gb)))) := j1 _ _ _ ks3
 repeat trivial
 refine gI (fs' := SF ((r0.wPs (.fz (ps'.map gb))).wRs v)) R4 ks4 (by kernel_rfl) (by kernel_rfl) (oZ _) fun H5 R5 => ?_
 generalize hg5 : (g3.wi i').setI 0 ks (SF ((r0.wPs (.fz (ps'.map gb))).wRs v)) = g5 at R5
 have i4 : fY (fun (p : Str × Nat) n => P1 g5 bnd p.2 n) ps' (ns.map (sw n m)) := by subst hg5; exact (i4.mono fun _ _ p => p.mono (g' := g3.wi i') j1).mono fun _ _ p => p.set0
 have D5 : Drv g5 kt kp n m := by subst hg5; exact (show Drv (g3.wi i') kt kp n m from D3.mono j1).set0
 have gr5 : ∀ c k fs, g.ins c k = some fs -> g5.ins c k = some fs := fun c k fs h => by
  subst hg5
  by_cases z : c = 0 /\ k = ks
  ·rw [z.1, z.2, fr] at h; exact nos h
  ·show (if c = 0 then upd ((g3.wi i').ins 0) ks _ else (g3.wi i').ins c) k = some fs
   by_cases z1 : c = 0
   ·subst z1
    rw [if_pos rfl]
    exact (af fun w => z ⟨rfl, w⟩).trans (j1 _ _ _ (gr3 _ _ _ h))
   ·rw [if_neg z1]; exact j1 _ _ _ (gr3 _ _ _ h)
 have ge5 : g5.ent = g.ent := by subst hg5; exact ge3
 have gw5 : g5 = g.wi g5.ins := by subst hg5; exact gw3 _
 have ks5 : g5.ins 0 ks = some (SF ((r0.wPs (.fz (ps'.map gb))).wRs v)) := by subst hg5; exact aO
 have hv : (v = .none /\ sw n m a = -1) \/ ∃ s', v = .ins 4 s' /\ P1 g5 bnd s' (sw n m a) := by
  rcases hv with r | ⟨s', r1, r2⟩
  ·exact .inl r
  ·exact .inr ⟨s', r1, by subst hg5; exact r2.set0⟩
 have ho5 : g5.ent o = some ro := by rw [ge5]; exact ho
 have hs5 := gr5 _ _ _ hs
 have hsc5 := gr5 _ _ _ hsc
 clear hg5 R3 hs3 D3 gr3 ho3 hsc3 j1 R4 ks3 ks4
 obtain ⟨tr, pr, b1, b2, b3, b4, b5, b6, b7, b8, b9⟩ := D5
 repeat (first | trivial | rw [hd] | rw [b3])
 refine bm (by rw [List.length_map]; exact leA (by assumption) rfl) fun s hn hi => ?_
 repeat trivial
 refine fR (ps'.map gb) (fun j ys H' => H' = H5 /\ ys = ((ns.map (sw n m)).take j).map .int) hn ⟨rfl, rfl⟩ (fun j ys H' p => hi H') (fun j v ys H' hv p => ?_) fun ys H' p => ?_
 ·obtain ⟨rfl, rfl⟩ := p
  refine ay fun X hX => ?_
  rw [List.getElem?_map] at hv
  obtain ⟨p, hp, rfl⟩ := Option.map_eq_some_iff.mp hv
  obtain ⟨n0, hn0, P0⟩ := i4.get j p hp
  obtain ⟨k0, r0, c, a1, a2, a3, a4, a5, a6⟩ := P0
  refine hX ?_
  repeat trivial
  refine aU (i := 2) (by simp) rfl ?_
  repeat trivial
  refine ⟨rfl, ?_⟩
  rw [List.take_add_one, hn0, List.map_append, a3]; rfl
 obtain ⟨rfl, rfl⟩ := p
 rw [List.length_map, i4.len, List.take_length]
 have ln : ns.length <= 100 := by have := i4.len; rw [List.length_map] at this; exact bu _ _ 0 0 .y (.n 100) .x .y .x (.n 100) rfl lp (geE this)
 refine eY (by rw [List.length_map, List.length_map]; exact leA (by assumption) rfl) ?_
 repeat trivial
 refine qH (by rw [List.length_map, List.length_map]; exact leA (by assumption) rfl) ?_
 repeat trivial
 refine aI (Q := fun x H2 => x = .int (sw n m a) /\ H2 = H') ?_ ?_
 ·rcases hv with ⟨rfl, r2⟩ | ⟨s', rfl, k0, q0, c, a1, a2, a3, a4, a5, a6⟩
  ·repeat trivial
   exact ⟨by rw [r2], rfl⟩
  ·repeat trivial
   exact ⟨by rw [a3], rfl⟩
 rintro x H6 ⟨rfl, rfl⟩
 repeat trivial
 refine eZ (kind := "sub") (key := some (ns.map (sw n m), sw n m a)) (by decide +kernel) ((R.eok ho).name) R5 fun e H7 f7 R7 => ?_
 repeat trivial
 refine bz (r' := ⟨"sub", ro.name, some (ns.map (sw n m), sw n m a), v, .ins 0 ks, .int 1, 0, "", none, "", .none, .none, false, false, false, true, false⟩) R7 ah (by kernel_rfl) (by kernel_rfl) rfl (fun o => ⟨o.kind, o.name, o.part, o.uniq⟩) fun H8 R8 => ?_
 rw [aX] at R8
 repeat trivial
 refine bz (r' := kH ro.name (ns.map (sw n m), sw n m a) v ks) R8 ah (by kernel_rfl) (by kernel_rfl) rfl (fun o => ⟨o.kind, o.name, o.part, o.uniq⟩) fun H9 R9 => ?_
 rw [aX] at R9
 repeat trivial
 rw [gw5] at R9 i4
 have hv : (v = .none /\ sw n m a = -1) \/ ∃ s', v = .ins 4 s' /\ P1 (g.wi g5.ins) bnd s' (sw n m a) := by rw [<- gw5]; exact hv
 exact q H9 g5.ins e ks ((r0.wPs (.fz (ps'.map gb))).wRs v) gr5 (by rw [<- ge5]; exact f7) ks5 ⟨⟨ps', rfl, i4, lp⟩, hv⟩ R9
end
section
variable {g : G} {H : MH} {t : Hid} {Q : MV -> MH -> Prop} {d k : Nat}
theorem qQ {e : Nat} {r : Rg} {re : Er} {kk : List Int × Int} (R : Rep g H) (hk : g.reg k = some r) (he : g.ent e = some re) (hm : (re.name, e) ∈ r.es) (key : re.key = some kk) (hno : ∀ x ∈ sel re.name r.es, (g.e x).overridden = false \/ ∃ k2, (g.e x).key = some k2 /\ k2 ≠ kk) (q : Q .none H) : W (fn (d + 2) "lead_to" [.ins 2 k, .ins 1 e]) H Q := by
 rw [li]
 obtain ⟨t, RT⟩ := R
 have R : Rep g H := ⟨t, RT⟩
 have hE := RT.ents hk re.name
 repeat trivial
 refine iY RT hk hm fun v hv => ?_
 repeat trivial
 refine hv _ fun s hn hi => ?_
 repeat trivial
 refine gp (bn (sel re.name r.es)) (fun j ρ H' => H' = H /\ ad ρ "entity" = some (.ins 1 e)) hn ⟨rfl, rfl⟩ (fun j ρ H' p => by rw [p.1]; exact hi H .refl) (fun j v ρ H' hv p => ?_) fun ρ H' p => ?_
 ·obtain ⟨o, ho, rfl⟩ := cv hv
  obtain ⟨rfl, hρ⟩ := p
  have hm' := List.mem_of_getElem? ho
  have he' := hE o hm'
  have no := hno o hm'
  refine dU (aB (aI (Q := fun b H2 => b = false /\ H2 = H') ?_ ?_))
  ·repeat trivial
   refine gq (nS _ (R.eok he').kind) (by decide +kernel) ?_
   repeat trivial
   refine gM (fun _ => ?_) fun _ => ⟨rfl, rfl⟩
   repeat trivial
   refine gM (fun _ => ?_) fun _ => ⟨rfl, rfl⟩
   repeat trivial
   refine gM (fun c => ?_) fun _ => ⟨rfl, rfl⟩
   rcases no with z | ⟨k2, z1, z2⟩
   ·rw [z] at c; cases c
   ·repeat trivial
    rw [z1, key]
    repeat trivial
    rw [decide_eq_false z2]
    repeat trivial
  ·rintro b H2 ⟨rfl, rfl⟩
   repeat trivial
 ·obtain ⟨rfl, hρ⟩ := p
  repeat trivial
theorem ub {ksc kq : Nat} {sc : Scr} {rq rr : Rg} (R : Rep g H) (hsc : g.ins 5 ksc = some (ScF sc)) (hp : sc.place = kq) (hq : g.reg kq = some rq) (hr : g.reg g.root = some rr) (hu : g.used + 1 <= 1000) (q : ∀ H', Rep (g.setU (g.used + 1)) H' -> Q .none H') : W (fn (d + 3) "count_implicit" [.ins 5 ksc]) H Q := by
 subst hp
 rw [ed]
 obtain ⟨t, RT⟩ := R
 have R : Rep g H := ⟨t, RT⟩
 have us := RT.used
 repeat trivial
 refine fP (RT.reg _ _ hr).2.2.1.dc (by decide +kernel) ?_
 repeat trivial
 refine kW RT hr fun c hc => ?_
 repeat trivial
 refine fU (by exact bu _ _ 0 0 .y (.n 1000) .x .y (.a .x (.n 1)) (.n 4611686018427387904) rfl us hc) (by decide) ?_
 repeat trivial
 refine kU (n := c + 1) RT hr hu (by exact aK _ _ 0 0 .x .y (.a .x (.n 1)) (.a .y (.n 1)) rfl hc) fun H1 RT1 => ?_
 have hr1 : (g.setU (g.used + 1)).reg g.root = some rr := hr
 repeat trivial
 have kc : (t.prv g.root).kc = ((t.cnt g.root "#inherited" (c + 1)).prv g.root).kc := by
  unfold Hid.cnt
  show _ = ((t.setP g.root _).prv g.root).kc
  rw [dm]
 rw [kc]
 refine oS (n := c + 1) RT1 hr1 ?_ ?_
 ·unfold Hid.cnt
  show ad ((t.setP g.root _).prv g.root).cnt _ = _
  rw [dm]
  exact jA
 repeat trivial
 refine oF (decide_eq_false (by omega)) ?_
 repeat trivial
 exact q H1 ⟨_, RT1⟩
theorem vX {ksc kq kt : Nat} {sc : Scr} {rq rr : Rg} {tr : Tr} {o : MV} (R : Rep g H) (hsc : g.ins 5 ksc = some (ScF sc)) (hp : sc.place = kq) (hq : g.reg kq = some rq) (hr : g.reg g.root = some rr) (ht : g.ins 3 kt = some (TF tr)) (hpar : tr.parent = .none) (q : Q (.bool false) H) : W (fn (d + 2) "is_inherited" [.ins 5 ksc, o, .ins 3 kt]) H Q := by
 subst hp
 rw [cD]
 obtain ⟨t, RT⟩ := R
 have R : Rep g H := ⟨t, RT⟩
 repeat (first | trivial | rw [hpar])
inductive yG (H2 : MH) (tk gv : MV) (o one : Nat) (l : List Nat) (j : Nat) (ρ : Rho) (H' : MH) : Prop
 | mk (eH : H' = H2) (h1 : ad ρ "takes" = some tk) (h2 : ad ρ "gives" = some gv) (h3 : ad ρ "other" = some (.ins 1 o)) (h4 : one ∉ l.take j) : yG H2 tk gv o one l j ρ H'
theorem vW {ksc kq kt kpar o so one kh : Nat} {prt : Str} {sc : Scr} {rq rr rh : Rg} {tr pr : Tr} {ro r1 : Er} {sr : Sr} {ns : List Int} {a : Int} (R : Rep g H) (hsc : g.ins 5 ksc = some (ScF sc)) (hp : sc.place = kq) (hq : g.reg kq = some rq) (hr : g.reg g.root = some rr) (ht : g.ins 3 kt = some (TF tr)) (hpar : tr.parent = .ins 3 kpar) (hpr : g.ins 3 kpar = some (TF pr))
  (hhom : aA rr.homes pr.number = some (kh, prt)) (hh : g.reg kh = some rh) (ho : g.ent o = some ro) (hk : ro.key = some (ns, a)) (hd : ro.data = .ins 0 so) (hs : g.ins 0 so = some (SF sr)) (hl : ns.length <= 100)
  (hone : one ∈ sel ro.name rh.es) (k1 : g.ent one = some r1) (k2 : r1.kind = "sub") (k3 : r1.key = some (ns.map (sw tr.number pr.number), sw tr.number pr.number a)) (k4 : r1.unique = ro.unique) (hkeys : ∀ x ∈ sel ro.name rh.es, (g.e x).kind = "sub" -> ∃ kk, (g.e x).key = some kk)
  (q : Q (.bool true) H) : W (fn (d + 2) "is_inherited" [.ins 5 ksc, .ins 1 o, .ins 3 kt]) H Q := by
 subst hp
 rw [cD]
 obtain ⟨t, RT⟩ := R
 have R : Rep g H := ⟨t, RT⟩
 have hne : rr.homes ≠ [] := fun z => by rw [z] at hhom; exact nos hhom
 have hE := RT.ents hh ro.name
 repeat (first | trivial | rw [hpar])
 refine gK RT hr hne ?_
 rw [hhom]
 repeat (first | trivial | rw [hk])
 refine vD (by rw [List.length_map]; exact leA (by assumption) rfl) fun s hn hi => ?_
 repeat trivial
 refine bD ns MV.int (fun x => some (.int (sw tr.number pr.number x))) hn (hi H) (fun x hx => ?_) ?_
 ·repeat trivial
  refine aI (Q := fun v H2 => v = .int (sw tr.number pr.number x) /\ H2 = H) ?_ ?_
  ·unfold sw
   by_cases c : x = tr.number
   ·rw [if_pos c, decide_eq_true c]
    repeat (first | trivial | rw [hpar])
   ·rw [if_neg c, decide_eq_false c]
    repeat trivial
  ·rintro v H2 ⟨rfl, rfl⟩
   repeat trivial
 have fm : ns.filterMap (fun x => some (MV.int (sw tr.number pr.number x))) = (ns.map (sw tr.number pr.number)).map MV.int := by
  rw [List.filterMap_eq_map', List.map_map]; rfl
 rw [fm]
 refine eY (by rw [List.length_map, List.length_map]; exact leA (by assumption) rfl) ?_
 repeat trivial
 refine qH (by rw [List.length_map, List.length_map]; exact leA (by assumption) rfl) ?_
 repeat (first | trivial | rw [hk])
 refine aI (Q := fun v H2 => v = .int (sw tr.number pr.number a) /\ H2 = H) ?_ ?_
 ·unfold sw
  by_cases c : a = tr.number
  ·rw [if_pos c, decide_eq_true c]
   repeat (first | trivial | rw [hpar])
  ·rw [if_neg c, decide_eq_false c]
   repeat (first | trivial | rw [hk])
 rintro v H2 ⟨rfl, rfl⟩
 repeat (first | trivial | rw [hpar])
 refine oK RT hr hhom ?_
 repeat trivial
 refine aU (i := 0) (xs := [.ins 2 kh, .str prt]) (by simp) rfl ?_
 repeat trivial
 refine fP (RT.reg _ _ hh).2.2.1.dn (by decide +kernel) ?_
 repeat trivial
 refine el RT hh fun v hv => ?_
 repeat trivial
 refine hv _ fun s hn hi => ?_
 repeat trivial
 refine gp (bn (sel ro.name rh.es)) (yG H2 (.tup ((ns.map (sw tr.number pr.number)).map .int)) (.int (sw tr.number pr.number a)) o one (sel ro.name rh.es)) hn ⟨rfl, rfl, rfl, rfl, by simp⟩ (fun j ρ H' p => by obtain ⟨rfl, _⟩ := p; exact hi _ .refl) (fun j v ρ H' hv p => ?_) fun ρ H' p => ?_
 ·obtain ⟨x, hx, rfl⟩ := cv hv
  obtain ⟨rfl, h1, h2, h3, h4⟩ := p
  have hm' := List.mem_of_getElem? hx
  have he' := hE x hm'
  have key := hkeys x hm'
  have next : x ≠ one -> one ∉ (sel ro.name rh.es).take (j + 1) := fun ne z => by
   rw [List.take_add_one, hx] at z
   rcases List.mem_append.mp z with z | z
   ·exact h4 z
   ·exact ne (Eq.symm (by simpa using z))
  have isOne : x = one -> g.e x = r1 := fun e => by rw [e]; exact G.e_of k1
  refine dU (aB (aI (Q := fun b H2 => b = (decide ((g.e x).kind = "sub") && decide ((g.e x).key = some (ns.map (sw tr.number pr.number), sw tr.number pr.number a))) /\ H2 = H') ?_ ?_))
  ·repeat trivial
   refine gq (nS _ (R.eok he').kind) (by decide +kernel) ?_
   repeat trivial
   refine gM (fun c => ?_) fun c => ⟨by rw [c]; rfl, rfl⟩
   obtain ⟨kk, hkk⟩ := key (of_decide_eq_true c)
   repeat (first | trivial | rw [hkk])
   refine vZ (l := (ns.map (sw tr.number pr.number), sw tr.number pr.number a)) ?_
   repeat trivial
   have z : decide (kk = (ns.map (sw tr.number pr.number), sw tr.number pr.number a)) = decide (some kk = some (ns.map (sw tr.number pr.number), sw tr.number pr.number a)) := by
    by_cases w : kk = (ns.map (sw tr.number pr.number), sw tr.number pr.number a)
    ·rw [decide_eq_true w, decide_eq_true (by rw [w])]
    ·rw [decide_eq_false w, decide_eq_false (fun e => w (Option.some.inj e))]
   refine gM (fun w => ?_) fun w => ?_
   ·repeat trivial
    exact ⟨by rw [c, <- z, w]; rfl, rfl⟩
   ·exact ⟨by rw [c, <- z, w]; rfl, rfl⟩
  rintro b H3 ⟨hb, rfl⟩
  refine dW (fun c => ?_) fun c => ?_
  ·repeat (first | trivial | rw [hd])
   refine oG (by decide +kernel) (by decide +kernel) ?_
   repeat trivial
   refine gq (R.eok he').uniq (R.eok ho).uniq ?_
   repeat trivial
   refine mf (fun w => ?_) fun w => ?_
   ·repeat trivial
    refine ⟨rfl, h1, h2, h3, next fun e => ?_⟩
    rw [isOne e, k4] at w
    simp at w
   ·repeat trivial
  ·repeat trivial
   refine ⟨rfl, h1, h2, h3, next fun e => ?_⟩
   rw [hb, isOne e, k2, k3] at c
   simp at c
 ·obtain ⟨rfl, h1, h2, h3, h4⟩ := p
  rw [an, List.take_length] at h4
  exact absurd hone h4
end
section
variable {g : G} {H : MH} {t : Hid} {Q : MV -> MH -> Prop} {d k : Nat}
inductive i9 (g : G) (n : Int) (rh : Rg) (within : Bool) (inhB : Nat -> Bool) (o : Nat) : Bool -> Prop
 | noSub : (g.e o).kind ≠ "sub" -> i9 g n rh within inhB o false
 | noMent : bY (g.e o) n = false -> i9 g n rh within inhB o false
 | implNot : (g.e o).implicit = true -> inhB o = false -> i9 g n rh within inhB o false
 | far : (g.e o).implicit = false -> (g.e o).overridden = false -> rh.kind = "package" -> (g.e o).part = "private" -> within = false -> i9 g n rh within inhB o false
 | take : (g.e o).kind = "sub" -> bY (g.e o) n = true -> (g.e o).overridden = false -> ((g.e o).implicit = false \/ inhB o = true) -> rh.kind = "package" -> ((g.e o).part = "visible" \/ (within = true /\ (g.e o).part = "private")) -> i9 g n rh within inhB o true
 | takeB : (g.e o).kind = "sub" -> bY (g.e o) n = true -> (g.e o).overridden = false -> (g.e o).implicit = true -> inhB o = true -> rh.kind = "block" -> within = true -> (g.e o).part = "body" -> i9 g n rh within inhB o true
section
variable {n : Int} {rh : Rg} {within : Bool} {inhB : Nat -> Bool} {o : Nat} {b : Bool}
theorem i9.kd (V : i9 g n rh within inhB o b) (h : (g.e o).kind ≠ "sub") : b = false := by
 cases V with
 | take a => exact absurd a h
 | takeB a => exact absurd a h
 | _ => rfl
theorem i9.ment (V : i9 g n rh within inhB o b) (h : bY (g.e o) n = false) : b = false := by
 cases V with
 | take _ a => rw [h] at a; cases a
 | takeB _ a => rw [h] at a; cases a
 | _ => rfl
theorem i9.ovr (V : i9 g n rh within inhB o b) (k : (g.e o).kind = "sub") (m : bY (g.e o) n = true) (h : (g.e o).overridden = true) : b = false /\ (g.e o).implicit = true /\ inhB o = false := by
 cases V with
 | noSub a => exact absurd k a
 | noMent a => rw [m] at a; cases a
 | implNot a b => exact ⟨rfl, a, b⟩
 | far _ a => rw [h] at a; cases a
 | take _ _ a => rw [h] at a; cases a
 | takeB _ _ a => rw [h] at a; cases a
theorem i9.impl (V : i9 g n rh within inhB o b) (k : (g.e o).kind = "sub") (m : bY (g.e o) n = true) (h : (g.e o).implicit = true) : b = inhB o := by
 cases V with
 | noSub a => exact absurd k a
 | noMent a => rw [m] at a; cases a
 | implNot a b => exact b.symm
 | far a => rw [h] at a; cases a
 | take _ _ _ a =>
  rcases a with a | a
  ·rw [h] at a; cases a
  ·exact a.symm
 | takeB _ _ _ _ a => exact a.symm
theorem i9.rest (V : i9 g n rh within inhB o b) (k : (g.e o).kind = "sub") (m : bY (g.e o) n = true) (h : (g.e o).implicit = false \/ inhB o = true) :
  (rh.kind = "package" /\ ((((g.e o).part = "visible" \/ (within = true /\ (g.e o).part = "private")) /\ b = true) \/ ((g.e o).part = "private" /\ within = false /\ b = false))) \/ (rh.kind = "block" /\ (g.e o).implicit = true /\ within = true /\ (g.e o).part = "body" /\ b = true) := by
 cases V with
 | noSub a => exact absurd k a
 | noMent a => rw [m] at a; cases a
 | implNot a b =>
  rcases h with h | h
  ·rw [h] at a; cases a
  ·rw [h] at b; cases b
 | far _ _ a b c => exact .inl ⟨a, .inr ⟨b, c, rfl⟩⟩
 | take _ _ _ _ a b => exact .inl ⟨a, .inl ⟨b, rfl⟩⟩
 | takeB _ _ _ a _ b c e => exact .inr ⟨b, a, c, e, rfl⟩
end
inductive wl (H : MH) (kpar kh ksc kf : Nat) (within : Bool) (ord : List Nat) (c : Nat -> Bool) (j : Nat) (ρ : Rho) (H' : MH) : Prop
 | mk (p1 : ad ρ "parent" = some (.ins 3 kpar)) (p2 : ad ρ "home" = some (.ins 2 kh)) (p3 : ad ρ "scope" = some (.ins 5 ksc)) (p4 : ad ρ "is_within" = some (.bool within)) (p5 : ad ρ "found" = some (.lst kf)) (K : cm H H') (p6 : kf < H'.next) (p7 : H'.lst kf = some (bn ((ord.take j).filter c))) : wl H kpar kh ksc kf within ord c j ρ H'
theorem rL {ksc kq kpar kh : Nat} {prt : Str} {sc : Scr} {rq rr rh : Rg} {pr : Tr} {cs : List (Nat × Rg)} (c : Nat -> Bool) (inhB : Nat -> Bool) (R : Rep g H) (hsc : g.ins 5 ksc = some (ScF sc)) (hp : sc.place = kq) (hq : g.reg kq = some rq) (hr : g.reg g.root = some rr) (hpr : g.ins 3 kpar = some (TF pr)) (hhom : aA rr.homes pr.number = some (kh, prt)) (hh : g.reg kh = some rh) (C : bt g (some kq) cs) (hl : cs.length < 20)
  (hi : ∀ o ∈ rh.ord, (g.e o).kind = "sub" -> bY (g.e o) pr.number = true -> (g.e o).implicit = true -> ∀ (H' : MH) (Q : MV -> MH -> Prop), Rep g H' -> Q (.bool (inhB o)) H' -> W (fn (d + 3) "is_inherited" [.ins 5 ksc, .ins 1 o, .ins 3 kpar]) H' Q)
  (hv : ∀ o ∈ rh.ord, i9 g pr.number rh (cs.any fun c => decide (c.2.number = rh.number)) inhB o (c o))
  (q : ∀ H' kf, cm H H' -> H.next <= kf -> kf < H'.next -> H'.lst kf = some (bn (rh.ord.filter c)) -> Q (.lst kf) H') : W (fn (d + 4) "operations_told" [.ins 5 ksc, .ins 3 kpar]) H Q := by
 subst hp
 rw [dJ]
 obtain ⟨t, RT⟩ := R
 have R : Rep g H := ⟨t, RT⟩
 have OE : ∀ o ∈ rh.ord, g.ent o = some (g.e o) /\ ((g.e o).name, o) ∈ rh.es := by
  intro o ho
  obtain ⟨x, hx⟩ := ((RT.reg _ _ hh).2.2.2).ord o ho
  obtain ⟨e, e1, e2⟩ := ((RT.reg _ _ hh).2.2.2).es _ hx
  have e1 : g.ent o = some e := e1
  refine ⟨by rw [e1, G.e_of e1], ?_⟩
  rw [G.e_of e1, e2]; exact hx
 have ordL : rh.ord.length <= 1000 := Nat.le_trans (RT.reg _ _ hh).2.2.2.ordL RT.used
 repeat trivial
 refine gK RT hr (fun z => by rw [z] at hhom; exact nos hhom) ?_
 rw [hhom]
 repeat trivial
 refine oK RT hr hhom ?_
 repeat trivial
 refine lY ?_
 repeat trivial
 refine l8 (o := some sc.place) R hh C hl ?_
 repeat trivial
 refine cw .refl fun kf H1 a1 _ a2 a3 _ a4 => ?_
 have RT1 := RT.keep a3
 have R1 : Rep g H1 := ⟨t, RT1⟩
 repeat trivial
 refine cy (RT1.reg _ _ hh).2.2.1.lo (by rw [an]; exact leA (by assumption) rfl) fun s hn hsrc => ?_
 repeat trivial
 generalize hw : (cs.any fun c => decide (c.2.number = rh.number)) = within at hv
 refine gp (bn rh.ord) (wl H kpar kh ksc kf within rh.ord c) hn ⟨rfl, rfl, rfl, rfl, rfl, a3, a2, a4⟩ (fun j ρ H' p => ?_) (fun j v ρ H' hv' p => ?_) fun ρ H' p => ?_
 ·obtain ⟨_, _, _, _, _, K, _, _⟩ := p
  exact hsrc H' ((RT.keep K).reg _ _ hh).2.2.1.lo
 ·obtain ⟨o, ho, rfl⟩ := cv hv'
  obtain ⟨p1, p2, p3, p4, p5, K, p6, p7⟩ := p
  have hm' := List.mem_of_getElem? ho
  obtain ⟨he', hes⟩ := OE o hm'
  have V := hv o hm'
  have R' : Rep g H' := R.keep K
  have tk : (rh.ord.take (j + 1)).filter c = (rh.ord.take j).filter c ++ (if c o then [o] else []) := by
   rw [List.take_add_one, ho, List.filter_append]
   cases z : c o <;> simp [z]
  have skip : c o = false -> H'.lst kf = some (bn ((rh.ord.take (j + 1)).filter c)) := fun z => by
   rw [tk, z]
   simpa using p7
  have fl : ((rh.ord.take j).filter c).length <= 1000 := by
   have := List.length_filter_le c (rh.ord.take j)
   rw [List.length_take] at this
   omega
  have take : c o = true -> ∀ (ρ' : Rho) (Q : MV -> MH -> Prop), (∀ H2, cm H H2 -> kf < H2.next -> H2.lst kf = some (bn ((rh.ord.take (j + 1)).filter c)) -> Q .none H2) -> W (aM "append" (.lst kf) [.ins 1 o]) H' Q := fun z ρ' Q hq => by
   refine oU K a1 p7 (by rw [an]; exact leA (by assumption) rfl) fun H2 K2 n2 l2 o2 => hq H2 K2 (by exact bu _ _ _ 0 (.a .x (.n 1)) .z .z .y (.a .x (.n 1)) .y rfl p6 (geE n2)) ?_
   rw [tk, z, eW]
   exact l2
  generalize hc : c o = b at V skip take
  have eb := R'.eok he'
  repeat trivial
  refine oG (nS _ eb.kind) (by decide +kernel) ?_
  repeat trivial
  by_cases k1 : (g.e o).kind = "sub"
  case neg =>
   rw [decide_eq_false k1]
   repeat trivial
   exact ⟨p1, p2, p3, p4, p5, K, p6, skip (V.kd k1)⟩
  rw [decide_eq_true k1]
  repeat trivial
  refine l7 R' he' ?_
  repeat trivial
  cases k2 : bY (g.e o) pr.number
  case false =>
   repeat trivial
   exact ⟨p1, p2, p3, p4, p5, K, p6, skip (V.ment k2)⟩
  repeat trivial
  cases k3 : (g.e o).overridden
  case true =>
   obtain ⟨hb, im, ib⟩ := V.ovr k1 k2 k3
   repeat trivial
   refine mf (fun w => ?_) fun w => ?_
   ·repeat trivial
    refine iU R' hh he' hes fun b' => ?_
    repeat trivial
    cases b'
    ·repeat trivial
     exact ⟨p1, p2, p3, p4, p5, K, p6, skip hb⟩
    ·repeat (first | trivial | rw [im])
     refine (hi o hm' k1 k2 im H') _ R' ?_
     rw [ib]
     repeat trivial
     exact ⟨p1, p2, p3, p4, p5, K, p6, skip hb⟩
   ·repeat trivial
    exact ⟨p1, p2, p3, p4, p5, K, p6, skip hb⟩
  refine rY rfl (oF rfl (bZ (bp ?_)))
  refine dU (aB (aI (Q := fun z H2 => H2 = H' /\ z = ((g.e o).implicit && !(inhB o))) ?_ ?_))
  ·repeat trivial
   refine gM (fun w => ?_) fun w => ⟨rfl, by rw [w]; rfl⟩
   repeat trivial
   refine hi o hm' k1 k2 w H' _ R' ?_
   repeat trivial
   rw [w]
   cases inhB o
   ·repeat trivial
   ·repeat trivial
  rintro z H2 ⟨rfl, hz⟩
  cases z
  case true =>
   have im : (g.e o).implicit = true := by cases w : (g.e o).implicit <;> rw [w] at hz <;> first | rfl | cases hz
   rw [im] at hz
   have ib : inhB o = false := by cases w : inhB o <;> rw [w] at hz <;> first | rfl | cases hz
   repeat trivial
   exact ⟨p1, p2, p3, p4, p5, K, p6, skip ((V.impl k1 k2 im).trans ib)⟩
  have hor : (g.e o).implicit = false \/ inhB o = true := by
   cases w : (g.e o).implicit
   ·exact .inl rfl
   ·rw [w] at hz
    cases w2 : inhB o
    ·rw [w2] at hz; cases hz
    ·exact .inr rfl
  have fin : (if (decide (rh.kind = "package")) then (((decide ((g.e o).part = "visible")) || (within && decide ((g.e o).part = "private"))) = b) else (within = true /\ (g.e o).part = "body" /\ (g.e o).implicit = true /\ b = true)) /\ (rh.kind = "package" -> b = false -> within = false) := by
   rcases V.rest k1 k2 hor with ⟨r1, r2⟩ | ⟨r1, r2, r3, r4, r5⟩
   ·rw [if_pos (decide_eq_true r1)]
    rcases r2 with ⟨r3 | ⟨r3, r4⟩, r5⟩ | ⟨r3, r4, r5⟩
    ·rw [r3, r5]; exact ⟨rfl, fun _ e => by cases e⟩
    ·rw [r3, r4, r5]; exact ⟨by decide +kernel, fun _ e => by cases e⟩
    ·rw [r3, r4, r5]; exact ⟨by decide +kernel, fun _ _ => rfl⟩
   ·rw [if_neg (by rw [r1]; decide +kernel)]
    exact ⟨⟨r3, r4, r2, r5⟩, fun e => by rw [r1] at e; exact absurd e (by decide +kernel)⟩
  repeat trivial
  refine gq (sK _ ((RT.reg _ _ hh).2.2.2.kind)) (by decide +kernel) ?_
  repeat trivial
  cases r1 : decide (rh.kind = "package")
  case false =>
   rw [r1] at fin
   obtain ⟨⟨f1, f2, f3, f4⟩, _⟩ := fin
   subst f1
   repeat trivial
   refine i6 eb.part (by decide +kernel) ?_
   rw [decide_eq_true f2]
   repeat (first | trivial | rw [f3])
   refine eE p7 (by decide +kernel) ?_
   repeat trivial
   refine take f4 ρ _ fun H3 K3 n3 l3 => ?_
   repeat trivial
   exact ⟨p1, p2, p3, p4, p5, K3, n3, l3⟩
  rw [r1] at fin
  obtain ⟨f1, f2⟩ := fin
  have f1 : (decide ((g.e o).part = "visible") || (within && decide ((g.e o).part = "private"))) = b := f1
  have f2 := f2 (of_decide_eq_true r1)
  repeat trivial
  refine i6 eb.part (by decide +kernel) ?_
  repeat trivial
  refine mf (fun w => ?_) fun w => ?_
  ·rw [w, Bool.false_or] at f1
   repeat trivial
   cases within
   case false =>
    repeat trivial
    exact ⟨p1, p2, p3, p4, p5, K, p6, skip (by rw [<- f1]; rfl)⟩
   repeat trivial
   refine i6 eb.part (by decide +kernel) ?_
   have f1 : decide ((g.e o).part = "private") = b := f1
   rw [f1]
   cases b
   case false => exact absurd (f2 rfl) (by decide)
   repeat trivial
   refine eE p7 (by decide +kernel) ?_
   repeat trivial
   refine take rfl ρ _ fun H3 K3 n3 l3 => ?_
   repeat trivial
   exact ⟨p1, p2, p3, p4, p5, K3, n3, l3⟩
  ·rw [w, Bool.true_or] at f1
   repeat trivial
   refine eE p7 (by decide +kernel) ?_
   repeat trivial
   refine take f1.symm ρ _ fun H3 K3 n3 l3 => ?_
   repeat trivial
   exact ⟨p1, p2, p3, p4, p5, K3, n3, l3⟩
 ·obtain ⟨p1, p2, p3, p4, p5, K, p6, p7⟩ := p
  repeat trivial
  rw [an, List.take_length] at p7
  exact q H' kf K a1 p6 p7
end
section
variable {g : G} {H : MH} {t : Hid} {Q : MV -> MH -> Prop} {d k : Nat}
noncomputable def oi (ro : Er) (key : List Int × Int) (res : MV) (ks : Nat) (num : Int) (part : Str) : Er := { kH ro.name key res ks with number := num, home := ro.home, part := part, unique := ro.unique, ready := true }
theorem Rep.esAt {k : Nat} {r : Rg} (R : Rep g H) (h : g.reg k = some r) : ∀ x e, (x, e) ∈ r.es -> g.ent e = some (g.e e) /\ (g.e e).name = x := by
 obtain ⟨t, RT⟩ := R
 intro x e he
 obtain ⟨q, e1, e2⟩ := (RT.reg _ _ h).2.2.2.es _ he
 have e1 : g.ent e = some q := e1
 exact ⟨by rw [e1, G.e_of e1], by rw [G.e_of e1]; exact e2⟩
theorem oQ {bnd : MV} {o so ksc kq kt kpar nf : Nat} {ro : Er} {sr : Sr} {sc : Scr} {rq rr : Rg} {ns : List Int} {a n m : Int} (R : Rep g H) (hsc : g.ins 5 ksc = some (ScF sc)) (hp : sc.place = kq) (hq : g.reg kq = some rq) (hr : g.reg g.root = some rr)
  (ho : g.ent o = some ro) (hd : ro.data = .ins 0 so) (hs : g.ins 0 so = some (SF sr)) (S : Sig g bnd sr ns a) (D : Drv g kt kpar n m) (F : Fr g kq nf) (hnf : nf < 19) (hu : g.used + 20 <= 1000)
  (hnr : ∀ x ∈ sel ro.name rq.es, ∃ kk, (g.e x).key = some kk /\ kk ≠ (ns.map (sw n m), sw n m a))
  (q : ∀ H' i e ks sr' num, (∀ c k fs, g.ins c k = some fs -> i c k = some fs) -> g.ent e = none -> i 0 ks = some (SF sr') -> Sig (g.wi i) bnd sr' (ns.map (sw n m)) (sw n m a) -> Rep ((((g.wi i).setE e (oi ro (ns.map (sw n m), sw n m a) sr'.result ks num rq.part)).setR kq (aj rq ro.name e)).setU (g.used + 5)) H' -> Q .none H') : W (fn (d + 6) "declare_inherited" [.ins 5 ksc, .ins 1 o, .ins 3 kt, .ins 3 kpar]) H Q := by
 subst hp
 have D' := D
 obtain ⟨tr, pr, b1, b2, b3, b4, b5, b6, b7, b8, b9⟩ := D'
 have esA := R.esAt hq
 rw [cW]
 refine wb (dU (aI (Q := fun x H2 => x = (Fl.next, ([("key", .str ""), ("scope", .ins 5 ksc), ("other", .ins 1 o), ("t", .ins 3 kt), ("parent", .ins 3 kpar)] : Rho)) /\ H2 = H) ?_ ?_))
 ·repeat (first | trivial | rw [hd])
 rintro _ H2 ⟨rfl, hH⟩
 rw [hH]
 clear hH H2
 have S' := S
 obtain ⟨_, s4⟩ := S'
 refine bp (dU (aB (aI (Q := fun v H2 => (∃ b : Bool, v = .bool b) /\ H2 = H) ?_ ?_)))
 ·rcases s4 with ⟨r1, r2⟩ | ⟨s, r1, k0, q0, c, a1, a2, a3, a4, a5, a6⟩
  ·repeat (first | trivial | rw [hd] | rw [r1])
   exact ⟨⟨_, rfl⟩, rfl⟩
  ·repeat (first | trivial | rw [hd] | rw [r1])
   exact ⟨⟨_, rfl⟩, rfl⟩
 rintro _ H2 ⟨⟨mk, rfl⟩, hH⟩
 rw [hH]
 clear hH H2
 repeat (first | trivial | rw [b3])
 refine ub R hsc rfl hq hr (by exact wT (by assumption) rfl rfl) fun H1 R1 => ?_
 repeat trivial
 refine jS (g := g.setU (g.used + 1)) R1 ho hd hs (S.mono fun _ _ _ _ h => h) hsc (D.mono fun _ _ _ h => h) fun H2 i e ks sr' gi f1 f2 S2 R2 => ?_
 have R2 : Rep (((g.wi i).setE e (kH ro.name (ns.map (sw n m), sw n m a) sr'.result ks)).setU (g.used + 1)) H2 := R2
 generalize hg2 : ((g.wi i).setE e (kH ro.name (ns.map (sw n m), sw n m a) sr'.result ks)).setU (g.used + 1) = g2 at R2
 have hsc2 : g2.ins 5 ksc = some (ScF sc) := by subst hg2; exact gi _ _ _ hsc
 have hq2 : g2.reg sc.place = some rq := by subst hg2; exact hq
 have hr2 : g2.reg g2.root = some rr := by subst hg2; exact hr
 have he2 : g2.ent e = some (kH ro.name (ns.map (sw n m), sw n m a) sr'.result ks) := by subst hg2; exact ah
 have ht2 : g2.ins 3 kt = some (TF tr) := by subst hg2; exact gi _ _ _ b1
 have ho2 : g2.ent o = some ro := by subst hg2; exact (af (fun z => by rw [z] at ho; rw [show g.ent e = none from f1] at ho; exact nos ho)).trans ho
 have old : ∀ x ∈ sel ro.name rq.es, g2.e x = g.e x := by
  intro x hx
  have hxe := (esA _ _ (aR.mp hx)).1
  have z : g2.ent x = some (g.e x) := by
   subst hg2
   exact (af (fun z => by rw [z, show g.ent e = none from f1] at hxe; exact nos hxe)).trans hxe
  exact G.e_of z
 have u2 : g2.used = g.used + 1 := by subst hg2; rfl
 have F2 : Fr g2 sc.place nf := F.mono fun j s hj => ⟨s, by subst hg2; exact hj, rfl, rfl⟩
 repeat trivial
 refine dB R2 hq2 hr2 he2 F2 hnf (by exact bu _ _ 0 0 (.a .y (.n 20)) (.n 1000) .x (.a .y (.n 1)) (.a .x (.n 10)) (.n 1000) rfl hu (Nat.le_of_eq u2)) (fun x hx => ?_) fun H3 num u su R3 => ?_
 ·have hx : x ∈ sel ro.name rq.es := hx
  obtain ⟨kk, k1, k2⟩ := hnr x hx
  rw [old x hx]
  unfold hom
  rw [k1, show (kH ro.name (ns.map (sw n m), sw n m a) sr'.result ks).key = some (ns.map (sw n m), sw n m a) from rfl, decide_eq_false (fun z => k2 (Option.some.inj z))]
  simp
 have R3 : Rep (((g2.setE e (aF (kH ro.name (ns.map (sw n m), sw n m a) sr'.result ks) sc.place rq num u)).setR sc.place (aj rq ro.name e)).setU (g2.used + 4)) H3 := R3
 generalize hg3 : (((g2.setE e (aF (kH ro.name (ns.map (sw n m), sw n m a) sr'.result ks) sc.place rq num u)).setR sc.place (aj rq ro.name e)).setU (g2.used + 4)) = g3 at R3
 have hsc3 : g3.ins 5 ksc = some (ScF sc) := by subst hg3; exact hsc2
 have hq3 : g3.reg sc.place = some (aj rq ro.name e) := by subst hg3; exact ah
 have he3 : g3.ent e = some (aF (kH ro.name (ns.map (sw n m), sw n m a) sr'.result ks) sc.place rq num u) := by subst hg3; exact ah
 have ht3 : g3.ins 3 kt = some (TF tr) := by subst hg3; exact ht2
 have noe : o ≠ e := fun z => by rw [z] at ho; rw [show g.ent e = none from f1] at ho; exact nos ho
 have ho3 : g3.ent o = some ro := by subst hg3; exact (af noe).trans ho2
 repeat (first | trivial | rw [b3])
 refine bz (r' := { aF (kH ro.name (ns.map (sw n m), sw n m a) sr'.result ks) sc.place rq num u with unique := ro.unique }) R3 he3 (by kernel_rfl) (by kernel_rfl) rfl (fun x => ⟨x.kind, x.name, x.part, (R3.eok ho3).uniq⟩) fun H4 R4 => ?_
 have he4 : (g3.setE e { aF (kH ro.name (ns.map (sw n m), sw n m a) sr'.result ks) sc.place rq num u with unique := ro.unique }).ent e = some { aF (kH ro.name (ns.map (sw n m), sw n m a) sr'.result ks) sc.place rq num u with unique := ro.unique } := ah
 have ho4 : (g3.setE e { aF (kH ro.name (ns.map (sw n m), sw n m a) sr'.result ks) sc.place rq num u with unique := ro.unique }).ent o = some ro := (af noe).trans ho3
 repeat trivial
 refine bz (r' := oi ro (ns.map (sw n m), sw n m a) sr'.result ks num rq.part) R4 he4 (by kernel_rfl) (by kernel_rfl) rfl (fun x => ⟨x.kind, x.name, x.part, x.uniq⟩) fun H5 R5 => ?_
 rw [aX] at R5
 have he5 : (g3.setE e (oi ro (ns.map (sw n m), sw n m a) sr'.result ks num rq.part)).ent e = some (oi ro (ns.map (sw n m), sw n m a) sr'.result ks num rq.part) := ah
 have hsc5 : (g3.setE e (oi ro (ns.map (sw n m), sw n m a) sr'.result ks num rq.part)).ins 5 ksc = some (ScF sc) := hsc3
 have hq5 : (g3.setE e (oi ro (ns.map (sw n m), sw n m a) sr'.result ks num rq.part)).reg sc.place = some (aj rq ro.name e) := hq3
 repeat trivial
 refine qQ R5 hq5 he5 (List.mem_append_right _ (List.mem_cons_self ..)) rfl (fun x hx => ?_) ?_
 ·have hx : x ∈ sel ro.name (rq.es ++ [(ro.name, e)]) := hx
  rw [cq, if_pos rfl] at hx
  rcases List.mem_append.mp hx with z | z
  ·obtain ⟨kk, k1, k2⟩ := hnr x z
   have hxe := (esA _ _ (aR.mp z)).1
   have ne : x ≠ e := fun w => by rw [w, show g.ent e = none from f1] at hxe; exact nos hxe
   have z2 : (g3.setE e (oi ro (ns.map (sw n m), sw n m a) sr'.result ks num rq.part)).ent x = some (g.e x) := by
    subst hg3
    refine (af ne).trans ((af ne).trans ?_)
    subst hg2
    exact (af ne).trans hxe
   rw [G.e_of z2]
   exact .inr ⟨kk, k1, k2⟩
  ·have z : x = e := by simpa using z
   subst z
   rw [G.e_of he5]
   exact .inl rfl
 repeat trivial
 refine q H5 i e ks sr' num gi f1 f2 (S2.mono fun _ _ _ _ h => h) ?_
 have z : g3.setE e (oi ro (ns.map (sw n m), sw n m a) sr'.result ks num rq.part) = ((((g.wi i).setE e (oi ro (ns.map (sw n m), sw n m a) sr'.result ks num rq.part)).setR sc.place (aj rq ro.name e)).setU (g.used + 5)) := by
  subst hg3
  subst hg2
  unfold G.setE G.setR G.setU G.wi
  simp only [df]
 exact z ▸ R5
end
section
variable {g : G} {H : MH} {t : Hid} {Q : MV -> MH -> Prop} {d k : Nat}
structure TR where
 nm : Str
 ns : List Int
 a : Int
 uq : Str
 e : Nat
noncomputable def TR.sw (n m : Int) (e : Nat) (t : TR) : TR := { t with ns := t.ns.map (Mine.sw n m), a := Mine.sw n m t.a, e := e }
noncomputable def dy (hn : Int) (t : TR) : MV := .tup [.str t.nm, .fz (t.ns.map .int), .int t.a, .str t.uq, .int hn]
noncomputable def rJ (hn : Int) (t : TR) : PyData := .tuple [.str t.nm, .list (t.ns.map .int), .int t.a, .str t.uq, .int hn]
inductive fX (g : G) (bnd : MV) (hk : Nat) (imp : Bool) (part : Str) (tr : TR) : Prop
 | mk (er so sr) (h1 : g.ent tr.e = some er) (h2 : er.kind = "sub") (h3 : er.name = tr.nm) (h4 : er.key = some (tr.ns, tr.a)) (h5 : er.data = .ins 0 so) (h6 : g.ins 0 so = some (SF sr)) (h7 : Sig g bnd sr tr.ns tr.a) (h8 : er.home = some hk) (h9 : er.unique = tr.uq) (h10 : er.implicit = imp) (h11 : er.overridden = false) (h12 : er.ready = true) (h13 : er.part = part) : fX g bnd hk imp part tr
theorem dT {x n m : Int} (q : Q (.int (sw n m x)) H) : W (fn (d + 2) "_law_swapped" [.int x, .int n, .int m]) H Q := by
 rw [gf]
 repeat trivial
 unfold sw at q
 by_cases c : x = n
 ·rw [if_pos c] at q
  rw [decide_eq_true c]
  repeat trivial
 ·rw [if_neg c] at q
  rw [decide_eq_false c]
  repeat trivial
theorem uM {n : Nat} {hn : Int} (t : TR) : pd (n + 3) H (dy hn t) = some (rJ hn t) :=
 kg (aL rfl (aL (lD (fj _)) (aL rfl (aL rfl (aL rfl rfl)))))
theorem js {n : Nat} {hn : Int} : ∀ ts : List TR, bo (pd (n + 3) H) (ts.map (dy hn)) = some (ts.map (rJ hn))
 | [] => rfl
 | t :: r => aL (uM t) (js r)
theorem rj {v : MV} {xs : List MV} {ds : List PyData} (h : mh H v = some xs) (hp : bo (pd 5 H) xs = some ds) : pd 6 H v = some (.list ds) := by
 cases v with
 | fz ys => obtain rfl := Option.some.inj h; exact lD hp
 | lst k =>
  have h : H.lst k = some xs := h
  show (match H.lst k with
   | some xs => (bo (pd 5 H) xs).map PyData.list
   | none => none) = _
  rw [h]
  show (bo (pd 5 H) xs).map PyData.list = _
  rw [hp]; rfl
 | _ => exact nos h
theorem tC {hn : Int} : ∀ ts : List TR, (∀ t ∈ ts, PyData.strOk t.nm = true /\ PyData.strOk t.uq = true) -> PyData.canLayAll0 (ts.map (rJ hn)) = true /\ PyData.depthAll (ts.map (rJ hn)) <= 3 := by
 intro ts
 induction ts with
 | nil => intro _; simp [PyData.canLayAll0, PyData.depthAll]
 | cons t r ih =>
  intro h
  obtain ⟨a, b⟩ := ih fun x hx => h x (List.mem_cons_of_mem _ hx)
  obtain ⟨c, e⟩ := h t (List.mem_cons_self ..)
  constructor
  ·simp only [List.map_cons, PyData.canLayAll0, rJ, PyData.canLay0, cS, c, e, a, Bool.and_self]
  ·simp only [List.map_cons, PyData.depthAll, rJ, PyData.depth, bN]
   omega
theorem tB {v w : MV} {hn : Int} {ts : List TR} (hv : mh H v = some (ts.map (dy hn))) (hw : mh H w = some (ts.map (dy hn))) (ok : ∀ t ∈ ts, PyData.strOk t.nm = true /\ PyData.strOk t.uq = true) : eqM v w H = some (true, H) := by
 obtain ⟨a, b⟩ := tC (hn := hn) ts ok
 have sh : SeqAt.shaped (.list (ts.map (rJ hn))) = true := by
  unfold SeqAt.shaped
  rw [show PyData.canLay0 (.list (ts.map (rJ hn))) = true by rw [PyData.canLay0]; exact a, Bool.true_and]
  refine decide_eq_true ?_
  rw [PyData.depth]; exact aK _ 0 0 0 .x (.n 3) (.a .x (.n 1)) (.n 64) rfl b
 rw [fG (rj hv (js ts)) (rj hw (js ts)) sh sh, SeqAt.eqv_refl _ (SeqAt.canLay_of_shaped sh)]
theorem vi {c : MV} (h : COk c) : eqM c c H = some (true, H) := by
 rcases h with rfl | ⟨a, b, rfl⟩
 ·rw [fG (da := .none) (db := .none) rfl rfl (by simp [SeqAt.shaped, PyData.canLay0, PyData.depth]) (by simp [SeqAt.shaped, PyData.canLay0, PyData.depth])]
  rw [SeqAt.eqv_refl _ (by simp [PyData.canLay0])]
 ·have sh : SeqAt.shaped (.tuple [.str "range", .int a, .int b]) = true := by
   unfold SeqAt.shaped
   rw [show PyData.canLay0 (.tuple [.str "range", .int a, .int b]) = true by simp only [PyData.canLay0, PyData.canLayAll0, show PyData.strOk "range" = true by decide +kernel, Bool.and_self], Bool.true_and]
   refine decide_eq_true ?_
   simp [PyData.depth, PyData.depthAll]
  have p : pd 6 H (.tup [.str "range", .int a, .int b]) = some (.tuple [.str "range", .int a, .int b]) := rfl
  rw [fG p p sh sh, SeqAt.eqv_refl _ (SeqAt.canLay_of_shaped sh)]
end
section
variable {g : G} {H : MH} {t : Hid} {Q : MV -> MH -> Prop} {d k : Nat}
theorem wJ {i : Nat} : MV.int (i : Int) = MV.int i := rfl
theorem yP {a : Int} (q : Q (.bool (decide (a < 0))) H) : W (az .Lt (.int a) (.int 0)) H Q := vN q
theorem ud {k : Nat} {xs ys : List MV} (h : H.lst k = some ys) (hl : xs.length <= 10000) (hl' : ys.length <= 10000) (q : Q (.fz (xs ++ ys)) H) : W (dz .Add (.fz xs) (.lst k)) H Q := by
 refine ⟨_, _, ?_, q⟩
 exact obS h (if_pos (Bool.and_eq_true_iff.mpr ⟨decide_eq_true hl, decide_eq_true hl'⟩))
inductive yJ (H : MH) (ksc kf : Nat) (dv bnd : MV) (m ups num : Int) (B : List TR) (j : Nat) (ρ : Rho) (H' : MH) : Prop
 | mk (p1 : ad ρ "scope" = some (.ins 5 ksc)) (p2 : ad ρ "due" = some dv) (p3 : ad ρ "number" = some (.int m)) (p4 : ad ρ "ups" = some (.int ups)) (p5 : ad ρ "bounds" = some bnd) (p6 : ad ρ "heard" = some (.lst kf)) (p7 : ad ρ cz = none) (K : cm H H') (p8 : kf < H'.next) (p9 : H'.lst kf = some ((B.take j).map (dy num))) : yJ H ksc kf dv bnd m ups num B j ρ H'
inductive yI (g : G) (H : MH) (kf : Nat) (bnd : MV) (l : List MV) (v : MV) (H4 : MH) : Prop
 | mk (ss : List Nat) (kl : Nat) (e : v = .lst kl) (l4 : H4.lst kl = some (ss.map (.ins 4))) (ls : ss.length <= 1) (hs : ∀ x ∈ ss, ∃ n, P1 g bnd x n) (K : cm H H4) (k8 : kf < H4.next) (k9 : H4.lst kf = some l) : yI g H kf bnd l v H4
theorem vY {bnd dv : MV} {ksc kq hk : Nat} {part : Str} {sc : Scr} {rq rh : Rg} {cs : List (Nat × Rg)} {m ups : Int} (B : List TR) (R : Rep g H) (hsc : g.ins 5 ksc = some (ScF sc)) (hp : sc.place = kq) (hq : g.reg kq = some rq) (C : bt g (some kq) ((kq, rq) :: cs)) (hl : cs.length < 9) (hh : g.reg hk = some rh) (hups : rq.level - rh.level = ups)
  (hB : ∀ b ∈ B, fX g bnd hk true part b /\ (b.nm, b.e) ∈ rq.es) (hBl : B.length <= 1000) (hm : m ≠ 61) (hb : COk bnd) (hdue : ∀ H', cm H H' -> mh H' dv = some (B.map (dy rh.number)))
  (q : ∀ H', Rep g H' -> cm H H' -> Q (.bool true) H') : W (fn (d + 8) "_law_has" [.ins 5 ksc, .fz (bn (B.map (·.e))), dv, .int m, .int ups, bnd]) H Q := by
 subst hp
 rw [ll]
 repeat trivial
 refine cw .refl fun kf H1 a1 _ a2 a3 _ a4 => ?_
 repeat trivial
 refine bm (by rw [an, List.length_map]; exact leA (by assumption) rfl) fun s hn hi => ?_
 repeat trivial
 refine gp (bn (B.map (·.e))) (yJ H ksc kf dv bnd m ups rh.number B) hn ⟨rfl, rfl, rfl, rfl, rfl, rfl, rfl, a3, a2, a4⟩ (fun j ρ H' p => hi H') (fun j v ρ H' hv' p => ?_) fun ρ H' p => ?_
 ·obtain ⟨o, ho, rfl⟩ := cv hv'
  rw [List.getElem?_map] at ho
  obtain ⟨b, hb', rfl⟩ := Option.map_eq_some_iff.mp ho
  obtain ⟨p1, p2, p3, p4, p5, p6, p7, K, p8, p9⟩ := p
  obtain ⟨⟨er, so, sr, e1, e2, e3, e4, e5, e6, e7, e8, e9, e10, e11, e12, e13⟩, hes⟩ := hB b (List.mem_of_getElem? hb')
  have R' : Rep g H' := R.keep K
  have eb := R'.eok e1
  obtain ⟨⟨ps, s1, s2, s3⟩, s4⟩ := e7
  repeat trivial
  refine oG (nS _ eb.kind) (by decide +kernel) ?_
  rw [decide_eq_true e2]
  repeat (first | trivial | rw [e10] | rw [e11])
  refine qF R' hq e1 e8 hh ?_
  rw [hups]
  repeat trivial
  rw [decide_eq_true rfl]
  repeat (first | trivial | rw [e5] | rw [s1])
  refine bm (by rw [List.length_map]; exact leA (by assumption) rfl) fun s5 hn5 hi5 => ?_
  repeat trivial
  refine fR (ps.map gb) (fun j ys H2 => H2 = H' /\ ys = (b.ns.take j).map .int) hn5 ⟨rfl, rfl⟩ (fun j ys H2 p => hi5 H2) (fun j v ys H2 hv p => ?_) fun ys H2 p => ?_
  ·obtain ⟨rfl, rfl⟩ := p
   rw [List.getElem?_map] at hv
   obtain ⟨p, hp, rfl⟩ := Option.map_eq_some_iff.mp hv
   obtain ⟨n0, hn0, k0, r0, c, c1, c2, c3, c4, c5, c6⟩ := s2.get _ _ hp
   repeat trivial
   refine aU (i := 2) (by simp) rfl ?_
   repeat trivial
   refine ⟨rfl, ?_⟩
   rw [List.take_add_one, hn0, List.map_append, c3]; rfl
  obtain ⟨rfl, rfl⟩ := p
  rw [List.length_map, s2.len, List.take_length]
  have ln : b.ns.length <= 100 := by have := s2.len; exact bu _ _ 0 0 .y (.n 100) .x .y .x (.n 100) rfl s3 (geE this)
  refine eY (by rw [List.length_map]; exact leA (by assumption) rfl) ?_
  refine bZ (bp ?_)
  refine dU (aB (aI (Q := fun x H3 => x = .int b.a /\ H3 = H2) ?_ ?_))
  ·rcases s4 with ⟨r1, r2⟩ | ⟨s', r1, k0, q0, c, c1, c2, c3, c4, c5, c6⟩
   ·repeat (first | trivial | rw [e5] | rw [r1])
    exact ⟨by rw [r2], rfl⟩
   ·repeat (first | trivial | rw [e5] | rw [r1])
    exact ⟨by rw [c3], rfl⟩
  rintro x H3 ⟨rfl, rfl⟩
  refine bZ (bp ?_)
  repeat (first | trivial | rw [e5] | rw [s1])
  refine bm (by rw [List.length_map]; exact leA (by assumption) rfl) fun s6 hn6 hi6 => ?_
  repeat trivial
  refine bD ps gb (fun p => some (.ins 4 p.2)) hn6 (hi6 H3) (fun p hp => ?_) ?_
  ·repeat trivial
   refine aU (i := 2) (by simp) rfl ?_
   repeat trivial
  have fm : ps.filterMap (fun p => some (MV.ins 4 p.2)) = (ps.map (·.2)).map (MV.ins 4) := by
   rw [List.filterMap_eq_map', List.map_map]; rfl
  rw [fm]
  have P9 : ∀ x ∈ ps.map (·.2), ∃ n, P1 g bnd x n := by
   intro x hx
   obtain ⟨p, hp, rfl⟩ := List.mem_map.mp hx
   obtain ⟨i, hi2⟩ := List.getElem?_of_mem hp
   obtain ⟨n0, _, P0⟩ := s2.get _ _ hi2
   exact ⟨n0, P0⟩
  refine eY (by rw [List.length_map, List.length_map]; exact leA (by assumption) rfl) ?_
  refine aB (aI (Q := yI g H kf bnd ((B.take j).map (dy rh.number))) ?_ ?_)
  ·repeat trivial
   refine dW (fun c => ?_) fun c => ?_
   ·repeat trivial
    refine cw K fun kl H4 c1 c2 c3 c4 c5 c6 => ?_
    repeat trivial
    exact ⟨[], kl, rfl, c6, by simp, (fun _ h => nomatch h), c5, Nat.lt_of_lt_of_le p8 c4.le, (c4.lst kf p8).trans p9⟩
   ·rcases s4 with ⟨r1, r2⟩ | ⟨s', r1, P0⟩
    ·rw [r2] at c; exact absurd c (by decide)
    ·repeat (first | trivial | rw [e5] | rw [r1])
     refine cw K fun kl H4 c1 c2 c3 c4 c5 c6 => ?_
     repeat trivial
     exact ⟨[s'], kl, rfl, c6, by simp, (fun x hx => ⟨b.a, by rw [List.mem_singleton.mp hx]; exact P0⟩), c5, Nat.lt_of_lt_of_le p8 c4.le, (c4.lst kf p8).trans p9⟩
  rintro v H4 ⟨ss, kl, rfl, l4, ls, hss, K4, k8, k9⟩
  have R4 : Rep g H4 := R.keep K4
  refine aB (ud l4 (by rw [List.length_map, List.length_map]; exact leA (by assumption) rfl) (by rw [List.length_map]; exact leA (by assumption) rfl) ?_)
  rw [<- List.map_append]
  generalize hall : ps.map (·.2) ++ ss = all
  have P10 : ∀ x ∈ all, ∃ n, P1 g bnd x n := by
   subst hall
   intro x hx
   rcases List.mem_append.mp hx with z | z
   ·exact P9 x z
   ·exact hss x z
  have lall : all.length <= 200 := by
   subst hall
   rw [List.length_append, List.length_map]; exact bu _ _ 0 0 .x (.n 100) .y (.n 1) (.a .x .y) (.n 200) rfl s3 ls
  repeat (first | trivial | rw [e4])
  refine qH (by rw [List.length_map]; exact leA (by assumption) rfl) ?_
  repeat trivial
  refine pf (kM (rH (k := (b.ns, b.a)) (l := (b.ns, b.a)))) ?_
  rw [decide_eq_true rfl]
  repeat trivial
  refine bm (by rw [List.length_map]; exact leA (by assumption) rfl) fun s7 hn7 hi7 => ?_
  repeat trivial
  refine bD all (MV.ins 4) (fun _ => none) hn7 (hi7 H4) (fun x hx => ?_) ?_
  ·obtain ⟨n0, k0, r0, c, c1, c2, c3, c4, c5, c6⟩ := P10 x hx
   repeat trivial
   by_cases w : r0.number = m
   ·rw [decide_eq_true w]
    repeat trivial
    rw [c5 (by rw [<- c3, w]; exact hm)]
    refine pf (kM (vi hb)) ?_
    repeat trivial
   ·rw [decide_eq_false w]
    repeat trivial
  have fm2 : all.filterMap (fun _ => (none : Option MV)) = [] := by
   rw [List.filterMap_eq_nil_iff]
   intro _ _; rfl
  rw [fm2]
  refine eY (Nat.zero_le _) ?_
  repeat trivial
  refine iX (Nat.zero_le _) ?_
  repeat trivial
  have ge : g.e b.e = er := G.e_of e1
  rw [e3]
  refine qP R4 C hl (aR.mpr hes) (by rw [ge]; exact e12) (by rw [ge]; exact e11) fun H5 fs K5 f1 f2 f3 => ?_
  have R5 : Rep g H5 := R4.keep K5
  repeat trivial
  refine bm (by rw [an]; assumption) fun s8 hn8 hi8 => ?_
  repeat trivial
  refine cO fs (fun o => decide ((g.e o).number = er.number)) hn8 (hi8 H5) (fun o ho => ?_) ?_
  ·have ho' := f1 o ho
   repeat trivial
   cases decide ((g.e o).number = er.number)
   ·repeat trivial
   ·repeat trivial
  have lf := bf (fun o => decide ((g.e o).number = er.number)) fs
  refine eY (by rw [an]; exact leA (leT (by assumption) (by assumption)) rfl) ?_
  repeat trivial
  refine iX (by rw [an]; exact leA (leT (by assumption) (by assumption)) rfl) ?_
  have ne : (bn (fs.filter fun o => decide ((g.e o).number = er.number))).isEmpty = false := by
   have : b.e ∈ fs.filter fun o => decide ((g.e o).number = er.number) := List.mem_filter.mpr ⟨f3, by rw [ge]; exact decide_eq_true rfl⟩
   cases z : fs.filter fun o => decide ((g.e o).number = er.number) with
   | nil => rw [z] at this; cases this
   | cons a l => rfl
  rw [ne]
  have k9' : H5.lst kf = some ((B.take j).map (dy rh.number)) := (K5.lst kf k8).trans k9
  repeat trivial
  refine eE k9' (by decide +kernel) ?_
  repeat (first | trivial | rw [e8])
  refine gL R5 hh (fun _ => rfl) ?_
  repeat trivial
  refine oU (K4.trans K5) a1 k9' (by rw [List.length_map, List.length_take]; omega) fun H6 K6 n6 l6 o6 => ?_
  repeat trivial
  refine ⟨p1, p2, p3, p4, p5, p6, p7, K6, by have := K5.le; exact gk _ _ _ _ (.a .x (.n 1)) .z .w .y .z .w (.a .x (.n 1)) .y rfl k8 (geE n6) this, ?_⟩
  rw [l6, List.take_add_one, hb', List.map_append, e3, e9]; rfl
 ·obtain ⟨p1, p2, p3, p4, p5, p6, p7, K, p8, p9⟩ := p
  rw [an, List.length_map, List.take_length] at p9
  repeat trivial
  refine pf (iO (tB (H := H') (v := .lst kf) p9 (hdue H' K) fun b hb' => ?_)) ?_
  ·obtain ⟨⟨er, so, sr, e1, e2, e3, e4, e5, e6, e7, e8, e9, e10, e11, e12, e13⟩, hes⟩ := hB b hb'
   have eb := R.eok e1
   exact ⟨by rw [<- e3]; exact jv _ eb.name, by rw [<- e9]; exact eb.uniq⟩
  repeat trivial
  exact q H' (R.keep K) K
end
section
variable {g : G} {H : MH} {t : Hid} {Q : MV -> MH -> Prop} {d k : Nat}
structure Row where
 nm : Str
 ns : List Int
 a : Int
 part : Str
 imp : Bool
 five : Bool
 e : Nat
 kr : Nat
 uq : Str
noncomputable abbrev Row.w5 (r : Row) (b : Bool) : Row := { r with five := b }
noncomputable def j8 (r : Row) : List MV := [.str r.nm, .fz (r.ns.map .int), .int r.a, .str r.part, .bool r.imp, .bool r.five, .ins 1 r.e]
noncomputable def Row.tr (r : Row) : TR := ⟨r.nm, r.ns, r.a, r.uq, r.e⟩
noncomputable def cY (near : Bool) (old : Int) (r : Row) : Bool := !r.imp && (!r.five && (decide (old ∈ r.ns ++ [r.a]) && !(decide (r.part = "private") && !near)))
theorem xg {v : MV} {xs : List MV} {ns : List Str} {ρ ρ' : Rho} {Q : Rho -> MH -> Prop} (h : jo H v = some xs) (hl : xs.length = ns.length) (e : bk (fun _ => some .local) (ns.map nC) xs ρ = some ρ') (q : Q ρ' H) : W (unN v ns ρ) H Q := by
 unfold unN
 refine aB ⟨xs, H, ?_, ?_⟩
 ·show (match jo H v with
   | some xs => if xs.length = ns.length then some (xs, H) else none
   | none => none) = _
  rw [h]
  exact if_pos hl
 ·show W (match bk (fun _ => some NameKind.local) (ns.map nC) xs ρ with
   | some ρ' => ac ρ'
   | none => ai) H Q
  rw [e]
  exact bZ q
theorem uf {xs ys : List MV} (hl : xs.length <= 10000) (hl' : ys.length <= 10000) (q : Q (.fz (xs ++ ys)) H) : W (dz .Add (.fz xs) (.fz ys)) H Q :=
 ⟨_, _, (show (if aC xs && aC ys then some (MV.fz (xs ++ ys), H) else none) = _ from if_pos (Bool.and_eq_true_iff.mpr ⟨decide_eq_true hl, decide_eq_true hl'⟩)), q⟩
inductive yL (H : MH) (near : Bool) (old new : Int) (kf : Nat) (num : Int) (rows : List Row) (j : Nat) (ρ : Rho) (H' : MH) : Prop
 | mk (p1 : ad ρ "is_near" = some (.bool near)) (p2 : ad ρ "old" = some (.int old)) (p3 : ad ρ "new" = some (.int new)) (p4 : ad ρ "found" = some (.lst kf)) (p5 : ad ρ cz = none) (K : cm H H') (p6 : kf < H'.next) (p7 : H'.lst kf = some (((rows.take j).filter (cY near old)).map fun r => dy num (r.tr.sw old new r.e))) : yL H near old new kf num rows j ρ H'
theorem xt {near : Bool} {klaid hk : Nat} {rh : Rg} {old new : Int} (rows : List Row) (R : Rep g H) (hlaid : g.lst klaid = some (rows.map fun r => .lst r.kr)) (hh : g.reg hk = some rh) (hl : rows.length <= 100)
  (hrow : ∀ r ∈ rows, g.lst r.kr = some (j8 r) /\ r.part ∈ PTs /\ r.ns.length <= 100 /\ ∃ er, g.ent r.e = some er /\ er.implicit = r.imp /\ er.home = some hk /\ er.unique = r.uq)
  (q : ∀ H' kf, cm H H' -> H.next <= kf -> kf < H'.next -> H'.lst kf = some ((rows.filter (cY near old)).map fun r => dy rh.number (r.tr.sw old new r.e)) -> Q (.lst kf) H') : W (fn (d + 3) "_law_due" [.lst klaid, .bool near, .int old, .int new]) H Q := by
 rw [lm]
 repeat trivial
 refine cw .refl fun kf H1 a1 _ a2 a3 _ a4 => ?_
 have R1 := R.keep a3
 repeat trivial
 refine cy (R1.lstAt hlaid) (by rw [List.length_map]; exact leA (by assumption) rfl) fun s hn hi => ?_
 repeat trivial
 refine gp (rows.map fun r => .lst r.kr) (yL H near old new kf rh.number rows) hn ⟨rfl, rfl, rfl, rfl, rfl, a3, a2, a4⟩ (fun j ρ H' p => ?_) (fun j v ρ H' hv' p => ?_) fun ρ H' p => ?_
 ·obtain ⟨_, _, _, _, _, K, _, _⟩ := p
  exact hi H' ((R.keep K).lstAt hlaid)
 ·rw [List.getElem?_map] at hv'
  obtain ⟨r, hr, rfl⟩ := Option.map_eq_some_iff.mp hv'
  obtain ⟨p1, p2, p3, p4, p5, K, p6, p7⟩ := p
  obtain ⟨h1, h2, h3, er, e1, e2, e3, e4⟩ := hrow r (List.mem_of_getElem? hr)
  have R' : Rep g H' := R.keep K
  have tk : (rows.take (j + 1)).filter (cY near old) = (rows.take j).filter (cY near old) ++ (if cY near old r then [r] else []) := by
   rw [List.take_add_one, hr, List.filter_append]
   cases z : cY near old r <;> simp [z]
  have skip : cY near old r = false -> H'.lst kf = some (((rows.take (j + 1)).filter (cY near old)).map fun r => dy rh.number (r.tr.sw old new r.e)) := fun z => by
   rw [tk, z]
   simpa using p7
  have fl : ((rows.take j).filter (cY near old)).length <= 1000 := by
   have := List.length_filter_le (cY near old) (rows.take j)
   rw [List.length_take] at this
   omega
  repeat trivial
  refine xg (ρ' := ("entity", .ins 1 r.e) :: ("is_over", .bool r.five) :: ("is_implicit", .bool r.imp) :: ("part", .str r.part) :: ("answer", .int r.a) :: ("numbers", .fz (r.ns.map .int)) :: ("name", .str r.nm) :: ρ) (R'.lstAt h1) rfl rfl ?_
  cases c1 : r.imp
  case true =>
   have sk : cY near old r = false := by unfold cY; rw [c1]; rfl
   repeat (first | trivial | rw [e2] | rw [c1])
   exact ⟨p1, p2, p3, p4, p5, K, p6, skip sk⟩
  cases c2 : r.five
  case true =>
   have sk : cY near old r = false := by unfold cY; rw [c1, c2]; rfl
   repeat (first | trivial | rw [e2] | rw [c1])
   exact ⟨p1, p2, p3, p4, p5, K, p6, skip sk⟩
  repeat (first | trivial | rw [e2] | rw [c1])
  refine uf (by rw [List.length_map]; exact leA (by assumption) rfl) (by simp) ?_
  repeat trivial
  rw [show r.ns.map MV.int ++ [MV.int r.a] = (r.ns ++ [r.a]).map MV.int by rw [List.map_append]; rfl]
  refine qN ?_
  repeat trivial
  cases c3 : decide (old ∈ r.ns ++ [r.a])
  case false =>
   have sk : cY near old r = false := by unfold cY; rw [c1, c2, c3]; rfl
   repeat trivial
   exact ⟨p1, p2, p3, p4, p5, K, p6, skip sk⟩
  repeat trivial
  refine i6 h2 (by decide +kernel) ?_
  have sk : (!(decide (r.part = "private") && !near)) = true -> cY near old r = true := fun z => by unfold cY; rw [c1, c2, c3, z]; rfl
  have sk' : (!(decide (r.part = "private") && !near)) = false -> cY near old r = false := fun z => by unfold cY; rw [c1, c2, c3, z]; rfl
  cases c4 : decide (r.part = "private")
  case' true => cases near
  case true.false =>
   rw [c4] at sk'
   have sk' := sk' rfl
   repeat trivial
   exact ⟨p1, p2, p3, p4, p5, K, p6, skip sk'⟩
  all_goals
   rw [c4] at sk
   have sk := sk rfl
   repeat trivial
   refine eE p7 (by decide +kernel) ?_
   repeat trivial
   refine bm (by rw [List.length_map]; exact leA (by assumption) rfl) fun s5 hn5 hi5 => ?_
   repeat trivial
   refine bD r.ns MV.int (fun x => some (.int (sw old new x))) hn5 (hi5 H') (fun x hx => ?_) ?_
   ·repeat trivial
    refine dT ?_
    repeat trivial
   have fm : r.ns.filterMap (fun x => some (MV.int (sw old new x))) = (r.ns.map (sw old new)).map MV.int := by
    rw [List.filterMap_eq_map', List.map_map]; rfl
   rw [fm]
   refine eY (by rw [List.length_map, List.length_map]; exact leA (by assumption) rfl) ?_
   repeat trivial
   refine dT ?_
   repeat (first | trivial | rw [e4] | rw [e3])
   refine gL R' hh (fun _ => rfl) ?_
   repeat trivial
   refine oU K a1 p7 (by rw [List.length_map]; exact leA (by assumption) rfl) fun H6 K6 n6 l6 o6 => ?_
   repeat trivial
   refine ⟨p1, p2, p3, p4, p5, K6, by exact bu _ _ _ 0 (.a .x (.n 1)) .z .z .y (.a .x (.n 1)) .y rfl p6 (geE n6), ?_⟩
   rw [l6, tk, sk, List.map_append]; rfl
 ·obtain ⟨p1, p2, p3, p4, p5, K, p6, p7⟩ := p
  rw [List.length_map, List.take_length] at p7
  repeat trivial
  exact q H' kf K a1 p6 p7
end
section
variable {g : G} {H : MH} {t : Hid} {Q : MV -> MH -> Prop} {d k : Nat}
theorem fX.mono {bnd : MV} {hk : Nat} {imp : Bool} {part : Str} {tr : TR} {g' : G} (E : fX g bnd hk imp part tr) (he : ∀ k r, g.ent k = some r -> g'.ent k = some r) (hi : ∀ c k fs, c ≠ 5 -> g.ins c k = some fs -> g'.ins c k = some fs) : fX g' bnd hk imp part tr := by
 obtain ⟨er, so, sr, e1, e2, e3, e4, e5, e6, e7, e8, e9, e10, e11, e12, e13⟩ := E
 exact ⟨er, so, sr, he _ _ e1, e2, e3, e4, e5, hi _ _ _ (by decide) e6, e7.mono fun c k fs hc h => hi c k fs (by rcases hc with rfl | rfl <;> decide) h, e8, e9, e10, e11, e12, e13⟩
structure bU (g g' : G) (kq : Nat) (rq : Rg) (bnd : MV) (hk : Nat) (n m : Int) (T B : List TR) : Prop where
 regq : g'.reg kq = some { rq with es := rq.es ++ B.map (fun b => (b.nm, b.e)), ord := rq.ord ++ B.map (·.e) }
 reg : ∀ k, k ≠ kq -> g'.reg k = g.reg k
 ent : ∀ k r, g.ent k = some r -> g'.ent k = some r
 ins : ∀ c k fs, g.ins c k = some fs -> g'.ins c k = some fs
 lst : ∀ k xs, g.lst k = some xs -> g'.lst k = some xs
 dct : ∀ k xs, g.dct k = some xs -> g'.dct k = some xs
 root : g'.root = g.root
 used : g'.used <= g.used + 5 * T.length
 all : fY (fun t b => b = t.sw n m b.e /\ fX g' bnd hk true rq.part b) T B
theorem fY.mem_right {α β : Type} {R : α -> β -> Prop} {as : List α} {bs : List β} (h : fY R as bs) : ∀ b ∈ bs, ∃ (i : Nat) (a : α), as[i]? = some a /\ R a b := by
 induction h with
 | nil => intro b hb; cases hb
 | cons r _ ih =>
  intro b hb
  rcases List.mem_cons.mp hb with z | z
  ·rw [z]; exact ⟨0, _, rfl, r⟩
  ·obtain ⟨i, a, h1, h2⟩ := ih b z
   exact ⟨i + 1, a, by simpa using h1, h2⟩
theorem jx {x : Str} {es : List (Str × Nat)} {B : List TR} {y : Nat} (h : y ∈ sel x (es ++ B.map fun b => (b.nm, b.e))) : y ∈ sel x es \/ ∃ b ∈ B, b.nm = x /\ b.e = y := by
 have h := aR.mp h
 rcases List.mem_append.mp h with z | z
 ·exact .inl (aR.mpr z)
 ·obtain ⟨b, hb, e⟩ := List.mem_map.mp z
  cases e
  exact .inr ⟨b, hb, rfl, rfl⟩
inductive yH (g : G) (ksc kt kpar kq : Nat) (rq : Rg) (bnd : MV) (hk : Nat) (n m : Int) (T : List TR) (j : Nat) (ρ : Rho) (H' : MH) : Prop
 | mk (p1 : ad ρ "scope" = some (.ins 5 ksc)) (p2 : ad ρ "t" = some (.ins 3 kt)) (p3 : ad ρ "parent" = some (.ins 3 kpar)) (gj : G) (B : List TR) (R : Rep gj H') (Br : bU g gj kq rq bnd hk n m (T.take j) B) : yH g ksc kt kpar kq rq bnd hk n m T j ρ H'
theorem qR {bnd : MV} {ksc kq kt kpar nf hk : Nat} {sc : Scr} {rq rr : Rg} {n m : Int} (T : List TR) (R : Rep g H) (hsc : g.ins 5 ksc = some (ScF sc)) (hp : sc.place = kq) (hq : g.reg kq = some rq) (hr : g.reg g.root = some rr) (hne : g.root ≠ kq) (D : Drv g kt kpar n m) (F : Fr g kq nf) (hnf : nf < 19) (hu : g.used + 20 + 5 * T.length <= 1000)
  (hT : ∀ tr ∈ T, ∃ imp part, fX g bnd hk imp part tr)
  (hD : ∀ (i j : Nat) (x y : TR), i < j -> T[i]? = some x -> T[j]? = some y -> x.nm = y.nm -> (x.ns.map (sw n m), sw n m x.a) ≠ (y.ns.map (sw n m), sw n m y.a))
  (hnr : ∀ tr ∈ T, ∀ x ∈ sel tr.nm rq.es, ∃ kk, (g.e x).key = some kk /\ kk ≠ (tr.ns.map (sw n m), sw n m tr.a))
  (told : ∀ Q : MV -> MH -> Prop, (∀ H' kf, cm H H' -> H.next <= kf -> kf < H'.next -> H'.lst kf = some (bn (T.map (·.e))) -> Q (.lst kf) H') -> W (fn (d + 6) "operations_told" [.ins 5 ksc, .ins 3 kpar]) H Q)
  (q : ∀ H' g' B, Rep g' H' -> bU g g' kq rq bnd hk n m T B -> Q .none H') : W (fn (d + 7) "inherit_operations" [.ins 5 ksc, .ins 3 kt, .ins 3 kpar]) H Q := by
 rw [cE]
 repeat trivial
 refine told _ fun H1 kf K1 a1 a2 a3 => ?_
 obtain ⟨R1, fr⟩ := R.keepL K1 a1 a2 a3
 have Tl : T.length <= 200 := by omega
 repeat trivial
 refine cy a3 (by rw [an, List.length_map]; exact leA (by assumption) rfl) fun s hn hi => ?_
 repeat trivial
 refine gp (bn (T.map (·.e))) (yH (g.setL kf (bn (T.map (·.e)))) ksc kt kpar kq rq bnd hk n m T) hn ⟨rfl, rfl, rfl, _, [], R1, ⟨by rw [List.map_nil, List.map_nil, List.append_nil, List.append_nil]; exact hq, fun _ _ => rfl, fun _ _ h => h, fun _ _ _ h => h, fun _ _ h => h, fun _ _ h => h, rfl, Nat.le_add_right _ _, .nil⟩⟩ (fun j ρ H' p => ?_) (fun j v ρ H' hv p => ?_) fun ρ H' p => ?_
 ·obtain ⟨_, _, _, gj, B, Rj, Bj⟩ := p
  exact hi H' (Rj.lstAt (Bj.lst _ _ ah))
 ·obtain ⟨o, ho, rfl⟩ := cv hv
  rw [List.getElem?_map] at ho
  obtain ⟨tr, htr, rfl⟩ := Option.map_eq_some_iff.mp ho
  obtain ⟨p1, p2, p3, gj, B, Rj, Bj⟩ := p
  have hm' := List.mem_of_getElem? htr
  obtain ⟨imp, part, E⟩ := hT tr hm'
  have Ej : fX gj bnd hk imp part tr := E.mono (fun k r h => Bj.ent k r h) fun c k fs _ h => Bj.ins c k fs h
  obtain ⟨er, so, sr, e1, e2, e3, e4, e5, e6, e7, e8, e9, e10, e11, e12, e13⟩ := Ej
  have rrj : gj.reg gj.root = some rr := by rw [Bj.root]; exact (Bj.reg _ hne).trans hr
  have Fj : Fr gj kq nf := F.mono fun k s hk' => by
   by_cases z : k = kq
   ·subst z
    rw [hq] at hk'; cases hk'
    exact ⟨_, Bj.regq, rfl, rfl⟩
   ·exact ⟨s, by rw [Bj.reg k z]; exact hk', rfl, rfl⟩
  have uj := Bj.used
  rw [List.length_take] at uj
  have uj : gj.used <= g.used + 5 * T.length := by
   have : (g.setL kf (bn (T.map (·.e)))).used = g.used := rfl
   rw [this] at uj
   omega
  have esA := R.esAt hq
  repeat trivial
  refine oQ (n := n) (m := m) (ns := tr.ns) (a := tr.a) Rj (Bj.ins _ _ _ hsc) hp Bj.regq rrj e1 e5 e6 e7 (D.mono fun c k fs h => Bj.ins _ _ _ h) Fj hnf (by exact bu _ _ _ 0 (.a (.a .y (.n 20)) (.m 5 .z)) (.n 1000) .x (.a .y (.m 5 .z)) (.a .x (.n 20)) (.n 1000) rfl hu uj) (fun x hx => ?_) fun H2 i e ks sr' num gi f1 f2 S2 R2 => ?_
  ·rw [e3] at hx
   rcases jx hx with z | ⟨b, hb, z1, z2⟩
   ·obtain ⟨kk, k1, k2⟩ := hnr tr hm' x z
    have : gj.e x = g.e x := G.e_of (Bj.ent _ _ (esA _ _ (aR.mp z)).1)
    rw [this]
    exact ⟨kk, k1, k2⟩
   ·obtain ⟨i0, t0, h1, h2, h3⟩ := Bj.all.mem_right b hb
    obtain ⟨eb, _, _, b1, _, b3, b4, _⟩ := h3
    have hlt : i0 < j := by
     have := (List.getElem?_eq_some_iff.mp h1).1
     rw [List.length_take] at this
     omega
    rw [List.getElem?_take_of_lt hlt] at h1
    have ne := hD i0 j t0 tr hlt h1 htr (by rw [<- z1, h2]; rfl)
    rw [<- z2, G.e_of b1]
    refine ⟨_, b4, ?_⟩
    rw [h2]
    exact ne
  repeat trivial
  refine ⟨p1, p2, p3, _, B ++ [tr.sw n m e], R2, ?_⟩
  have ge : ∀ k r, gj.ent k = some r -> ((((gj.wi i).setE e (oi er (tr.ns.map (sw n m), sw n m tr.a) sr'.result ks num rq.part)).setR kq (aj { rq with es := rq.es ++ B.map (fun b => (b.nm, b.e)), ord := rq.ord ++ B.map (·.e) } er.name e)).setU (gj.used + 5)).ent k = some r := fun k r h =>
   (af (fun z => by rw [z, f1] at h; exact nos h)).trans h
  refine ⟨?_, fun k hk' => (af hk').trans (Bj.reg k hk'), fun k r h => ge k r (Bj.ent k r h), fun c k fs h => gi _ _ _ (Bj.ins _ _ _ h), fun k xs h => Bj.lst _ _ h, fun k xs h => Bj.dct _ _ h, Bj.root, ?_, ?_⟩
  ·refine ah.trans ?_
   unfold aj
   rw [e3, List.map_append, List.map_append, <- List.append_assoc, <- List.append_assoc]; rfl
  ·have := Bj.used
   have lt : j < T.length := (List.getElem?_eq_some_iff.mp htr).1
   rw [List.length_take] at this ⊢
   show gj.used + 5 <= _
   have z : (g.setL kf (bn (T.map (·.e)))).used = g.used := rfl
   rw [z] at this ⊢
   omega
  ·rw [List.take_add_one, htr]
   refine (Bj.all.mono fun t b h => ⟨h.1, h.2.mono ge fun c k fs _ h => gi _ _ _ h⟩).snoc ⟨rfl, ?_⟩
   exact ⟨oi er (tr.ns.map (sw n m), sw n m tr.a) sr'.result ks num rq.part, ks, sr', ah, rfl, e3, rfl, rfl, f2, S2.mono fun _ _ _ _ h => h, e8, e9, rfl, rfl, rfl, rfl⟩
 ·obtain ⟨_, _, _, gj, B, Rj, Bj⟩ := p
  rw [an, List.length_map, List.take_length] at Bj
  repeat trivial
  refine q H' gj B Rj ⟨Bj.regq, Bj.reg, Bj.ent, Bj.ins, fun k xs h => Bj.lst k xs ((af (fun z => by rw [z, fr] at h; exact nos h)).trans h), Bj.dct, Bj.root, Bj.used, Bj.all⟩
end
section
variable {g : G} {H : MH} {t : Hid} {Q : MV -> MH -> Prop} {d k : Nat}
theorem Rep.regPart {k : Nat} {r : Rg} (R : Rep g H) (h : g.reg k = some r) : r.ord.length <= 1000 := by
 obtain ⟨t, R⟩ := R
 exact Nat.le_trans (R.reg _ _ h).2.2.2.ordL R.used
structure aZ (g g2 : G) (kq ksc kt kpar ke : Nat) (rq rr : Rg) (sc : Scr) (x : Str) (m : Int) : Prop where
 regq : g2.reg kq = some (aj rq x ke)
 regr : g2.reg g2.root = some (rr.wHom m (kq, rq.part))
 reg : ∀ k, k ≠ kq -> k ≠ g.root -> g2.reg k = g.reg k
 root : g2.root = g.root
 ent : ∀ k r, g.ent k = some r -> g2.ent k = some r
 te : g.ent ke = none /\ ∃ te, g2.ent ke = some te /\ te.kind = "type" /\ te.key = none /\ te.name = x
 ins : ∀ c k fs, c ≠ 5 -> g.ins c k = some fs -> g2.ins c k = some fs
 scp : g2.ins 5 ksc = some (ScF (sc.wPl kq))
 lst : ∀ k xs, g.lst k = some xs -> g2.lst k = some xs
 dct : ∀ k xs, g.dct k = some xs -> g2.dct k = some xs
 used : g2.used <= g.used + 5
 ty : Ty g2 kt m (.ins 3 kpar)
theorem Ty.tag {kt : Nat} {n : Int} {p : MV} (T : Ty g kt n p) : ∃ tr, g.ins 3 kt = some (TF tr) /\ tr.number = n /\ tr.tagged = false /\ tr.parent = p := by
 obtain ⟨r, ko, a, b, c, e, _⟩ := T
 exact ⟨r, a, b, e, c⟩
theorem wc {k b : Nat} {xs : List MV} (h : H.lst k = some xs) (hl : xs.length <= 10000) (hb : b <= xs.length) (q : Q (.fz (xs.drop b)) H) : W (lP (.lst k) (.int b) .none) H Q := by
 exact ⟨_, _, obS h (if_pos (Bool.and_eq_true_iff.mpr ⟨rfl, Bool.and_eq_true_iff.mpr ⟨Bool.and_eq_true_iff.mpr ⟨decide_eq_true (n0 _), decide_eq_true (cle hb)⟩, decide_eq_true hl⟩⟩)), q⟩
theorem kT {bnd p : MV} {ksc kq kpar nf hk : Nat} {x : Str} {sc : Scr} {rq rr : Rg} {n m : Int} (T : List TR) (hx : x ∈ NMs) (R : Rep g H) (hsc : g.ins 5 ksc = some (ScF sc)) (hq : g.reg kq = some rq) (hr : g.reg g.root = some rr) (hne : g.root ≠ kq) (tp : Ty g kpar n p) (hmn : m ≠ n) (hn61 : n ≠ 61) (hm0 : 0 <= m) (hn0 : 0 <= n) (F : Fr g kq nf) (hnf : nf < 19) (hu : g.used + 60 + 5 * T.length <= 1000)
  (hsel : sel x rq.es = []) (hh : aA rr.homes m = none)
  (hT : ∀ tr ∈ T, tr.nm ≠ x /\ ∃ imp part, fX g bnd hk imp part tr)
  (hD : ∀ (i j : Nat) (x y : TR), i < j -> T[i]? = some x -> T[j]? = some y -> x.nm = y.nm -> (x.ns.map (sw n m), sw n m x.a) ≠ (y.ns.map (sw n m), sw n m y.a))
  (hnr : ∀ tr ∈ T, ∀ y ∈ sel tr.nm rq.es, ∃ kk, (g.e y).key = some kk /\ kk ≠ (tr.ns.map (sw n m), sw n m tr.a))
  (told : ∀ (g2 : G) (H2 : MH) (kt ke : Nat) (Q : MV -> MH -> Prop), Rep g2 H2 -> aZ g g2 kq ksc kt kpar ke rq rr sc x m -> (∀ H' kf, cm H2 H' -> H2.next <= kf -> kf < H'.next -> H'.lst kf = some (bn (T.map (·.e))) -> Q (.lst kf) H') -> W (fn (d + 6) "operations_told" [.ins 5 ksc, .ins 3 kpar]) H2 Q)
  (q : ∀ H' g2 g' B kt ke, Rep g' H' -> aZ g g2 kq ksc kt kpar ke rq rr sc x m -> bU g2 g' kq (aj rq x ke) bnd hk n m T B -> Q (.tup [.ins 3 kt, .fz (bn (B.map (·.e)))]) H') : W (fn (d + 8) "_law_derive" [.ins 5 ksc, .ins 2 kq, .ins 3 kpar, .str x, .int m]) H Q := by
 rw [gQ]
 repeat trivial
 refine gI (fs' := ScF (sc.wPl kq)) R hsc (by kernel_rfl) (by kernel_rfl) (rV _) fun H1 R1 => ?_
 have tp1 : Ty (g.setI 5 ksc (ScF (sc.wPl kq))) kpar n p := by
  obtain ⟨r, ko, a, b1, b2, b3, b4, b5⟩ := tp
  exact ⟨r, ko, (a0 (by decide)).trans a, b1, b2, b3, b4, b5⟩
 repeat trivial
 refine oO R1 tp1 fun kt ko ko2 H2 tr f1 f2 f3 f4 f5 f6 f7 B => ?_
 repeat trivial
 refine cV B fun H3 B3 => ?_
 repeat trivial
 refine jN (B3.addI (by decide) (by decide) (oX _)) fun ks H4 fk R4 => ?_
 have gi4 : ∀ c k fs, c ≠ 5 -> g.ins c k = some fs -> (((((g.setI 5 ksc (ScF (sc.wPl kq))).setD ko (.s [])).setD ko2 (.s [])).setI 3 kt (TF (tr.wNum m))).setI 4 ks (StF kt .none)).ins c k = some fs := by
  intro c k fs hc h
  exact aN fk _ _ _ (aN f1 _ _ _ ((a0 hc).trans h))
 have sc4 : (((((g.setI 5 ksc (ScF (sc.wPl kq))).setD ko (.s [])).setD ko2 (.s [])).setI 3 kt (TF (tr.wNum m))).setI 4 ks (StF kt .none)).ins 5 ksc = some (ScF (sc.wPl kq)) :=
  (a0 (by decide)).trans ((a0 (by decide)).trans (show (g.setI 5 ksc (ScF (sc.wPl kq))).ins 5 ksc = _ from aO))
 have st4 : (((((g.setI 5 ksc (ScF (sc.wPl kq))).setD ko (.s [])).setD ko2 (.s [])).setI 3 kt (TF (tr.wNum m))).setI 4 ks (StF kt .none)).ins 4 ks = some (StF kt .none) := aO
 have tr4 : (((((g.setI 5 ksc (ScF (sc.wPl kq))).setD ko (.s [])).setD ko2 (.s [])).setI 3 kt (TF (tr.wNum m))).setI 4 ks (StF kt .none)).ins 3 kt = some (TF (tr.wNum m)) := (a0 (by decide)).trans (aO : ((((g.setI 5 ksc (ScF (sc.wPl kq))).setD ko (.s [])).setD ko2 (.s [])).setI 3 kt (TF (tr.wNum m))).ins 3 kt = some (TF (tr.wNum m)))
 have dc4 : (((((g.setI 5 ksc (ScF (sc.wPl kq))).setD ko (.s [])).setD ko2 (.s [])).setI 3 kt (TF (tr.wNum m))).setI 4 ks (StF kt .none)).dct ko2 = some (.s []) := ah
 have dd4 : ∀ k xs, g.dct k = some xs -> (((((g.setI 5 ksc (ScF (sc.wPl kq))).setD ko (.s [])).setD ko2 (.s [])).setI 3 kt (TF (tr.wNum m))).setI 4 ks (StF kt .none)).dct k = some xs := by
  intro k xs h
  have h1 : ((g.setI 5 ksc (ScF (sc.wPl kq))).setD ko (.s [])).dct k = some xs := (af (fun z => by rw [z, show g.dct ko = none from f2] at h; exact nos h)).trans h
  exact (af (fun z => by rw [z, f3] at h1; exact nos h1)).trans h1
 generalize hg4 : ((((g.setI 5 ksc (ScF (sc.wPl kq))).setD ko (.s [])).setD ko2 (.s [])).setI 3 kt (TF (tr.wNum m))).setI 4 ks (StF kt .none) = g4 at R4 gi4 sc4 st4 tr4 dc4 dd4
 have e4 : g4.ent = g.ent := by subst hg4; rfl
 have r4 : g4.reg = g.reg := by subst hg4; rfl
 have o4 : g4.root = g.root := by subst hg4; rfl
 have l4 : g4.lst = g.lst := by subst hg4; rfl
 have u4 : g4.used = g.used := by subst hg4; rfl
 repeat trivial
 refine oy (tr := (tr.wNum m)) hx R4 (r := rq) (rr := rr) (by rw [r4]; exact hq) (by rw [r4, o4]; exact hr) st4 tr4 (F.mono fun k s h => ⟨s, by rw [r4]; exact h, rfl, rfl⟩) hnf (by exact bu _ _ _ 0 (.a (.a .y (.n 60)) (.m 5 .z)) (.n 1000) .x .y (.a .x (.n 20)) (.n 1000) rfl hu (Nat.le_of_eq u4)) hsel hh fun H5 ke num u rr2 k1 k2 k3 R5 => ?_
 have k3 : rr2 = rr := by
  rw [o4] at k3
  have : (g4.setR kq (aj rq x ke)).reg g.root = g4.reg g.root := af hne
  rw [this, r4, hr] at k3
  obtain rfl := Option.some.inj k3; rfl
 subst k3
 have A : aZ g (g4.tell ke kq (aF (dY x ks) kq rq num u) (aj rq x ke) (rr2.wHom m (kq, rq.part))) kq ksc kt kpar ke rq rr2 sc x m := by
  refine ⟨?_, ah, fun k h1 h2 => ?_, o4, fun k r h => ?_, ⟨by rw [<- e4]; exact k1, _, ah, rfl, rfl, rfl⟩, gi4, sc4, fun k xs h => by rw [<- l4] at h; exact h, dd4, by show g4.used + 5 <= _; exact aK _ _ 0 0 .x .y (.a .x (.n 5)) (.a .y (.n 5)) rfl (Nat.le_of_eq u4), ⟨_, ko2, tr4, rfl, f5, f6, f7, dc4⟩⟩
  ·exact (af (by rw [o4]; exact hne.symm)).trans ah
  ·exact (af (by rw [o4]; exact h2)).trans ((af h1).trans (congrFun r4 k))
  ·exact (af (fun z => by rw [z, <- e4, k1] at h; exact nos h)).trans ((congrFun e4 k).trans h)
 have R5 : Rep (g4.tell ke kq (aF (dY x ks) kq rq num u) (aj rq x ke) (rr2.wHom m (kq, rq.part))) H5 := R5
 generalize (g4.tell ke kq (aF (dY x ks) kq rq num u) (aj rq x ke) (rr2.wHom m (kq, rq.part))) = g5 at R5 A
 obtain ⟨t5, RT5⟩ := R5
 have R5 : Rep g5 H5 := ⟨t5, RT5⟩
 have hq5 := A.regq
 have ol := R5.regPart hq5
 repeat trivial
 refine vP (RT5.reg _ _ hq5).2.2.1.lo (by rw [an]; exact leA (by assumption) rfl) ?_
 repeat trivial
 have D5 : Drv g5 kt kpar n m := by
  obtain ⟨ty, y1, y2, y3, y4⟩ := A.ty.tag
  obtain ⟨tq, w1, w2, w3, w4⟩ := tp.tag
  exact ⟨ty, tq, y1, y2, y3, A.ins _ _ _ (by decide) w1, w2, hmn, hn61, hm0, hn0⟩
 refine qR (bnd := bnd) (hk := hk) (kq := kq) (rq := aj rq x ke) (rr := (rr2.wHom m (kq, rq.part))) T R5 A.scp rfl hq5 A.regr (by rw [A.root]; exact hne) D5 (F.mono fun k s h => ?_) hnf (by have := A.used; exact bu _ _ _ 0 (.a (.a .z (.n 60)) (.m 5 .y)) (.n 1000) .x (.a .z (.n 5)) (.a (.a .x (.n 20)) (.m 5 .y)) (.n 1000) rfl hu this) (fun tr h => ?_) hD (fun tr h y hy => ?_) (fun Q hQ => told g5 H5 kt ke Q R5 A hQ) fun H6 g6 B6 R6 Br => ?_
 ·by_cases z : k = kq
  ·subst z
   rw [hq] at h; obtain rfl := Option.some.inj h
   exact ⟨_, hq5, rfl, rfl⟩
  ·by_cases z2 : k = g.root
   ·subst z2
    rw [hr] at h; obtain rfl := Option.some.inj h
    refine ⟨(rr2.wHom m (kq, rq.part)), ?_, rfl, rfl⟩
    rw [<- A.root]; exact A.regr
   ·exact ⟨s, by rw [A.reg k z z2]; exact h, rfl, rfl⟩
 ·obtain ⟨_, imp, part, E⟩ := hT tr h
  exact ⟨imp, part, E.mono A.ent fun c k fs hc h => A.ins c k fs hc h⟩
 ·have hy : y ∈ sel tr.nm (rq.es ++ [(x, ke)]) := hy
  rw [cq, if_neg (fun z => (hT tr h).1 z.symm)] at hy
  obtain ⟨kk, h1, h2⟩ := hnr tr h y hy
  have := (R.esAt hq _ _ (aR.mp hy)).1
  rw [G.e_of (A.ent _ _ this)]
  exact ⟨kk, h1, h2⟩
 obtain ⟨t6, RT6⟩ := R6
 have R6 : Rep g6 H6 := ⟨t6, RT6⟩
 have hq6 := Br.regq
 have ol6 := R6.regPart hq6
 repeat trivial
 refine wc (RT6.reg _ _ hq6).2.2.1.lo (by rw [an]; exact leA (by assumption) rfl) ?_ ?_
 ·rw [an, an]
  show (aj rq x ke).ord.length <= ((aj rq x ke).ord ++ B6.map (·.e)).length
  rw [List.length_append]; exact iE _ _ 0 0 .x (.a .x .y) rfl
 repeat trivial
 have dr : (bn ((aj rq x ke).ord ++ B6.map (·.e))).drop (bn (aj rq x ke).ord).length = bn (B6.map (·.e)) := by
  rw [eW, List.drop_left]
 have qq := q H6 g5 g6 B6 kt ke R6 A Br
 rw [<- dr] at qq
 exact qq
end
section
variable {g : G} {H : MH} {t : Hid} {Q : MV -> MH -> Prop} {d k : Nat}
theorem qK {R : Type} {n : Nat} {kk : Src × Nat -> M R} {Q : R -> MH -> Prop} (hn : n <= 1000) (q : ∀ s : Src × Nat, s.2 = ((List.range n).map fun i => MV.int (i : Nat)).length + 1 -> (∀ H', s.1.Is H' ((List.range n).map fun i => MV.int (i : Nat))) -> W (kk s) H Q) : W (pe (.int n) kk) H Q := by
 have e : pe (.int n) kk = kk (.rng n, n + 1) := by
  show (if decide ((0 : Int) <= n) && decide ((n : Int) <= cH) then kk (.rng (n : Int).toNat, (n : Int).toNat + 1) else ai) = _
  rw [if_pos (by rw [decide_eq_true (by exact n0 _), decide_eq_true (show (n : Int) <= cH by unfold cH; exact cle (b := 10000) (aK _ 0 0 0 .x (.n 1000) .x (.n 10000) rfl hn))]; rfl)]
  rfl
 rw [e]
 refine q _ (by simp) fun H' j => ?_
 show some (if j < n then some (MV.int j) else none) = some (((List.range n).map fun i => MV.int (i : Nat))[j]?)
 rw [List.getElem?_map]
 by_cases c : j < n
 ·rw [if_pos c, List.getElem?_range c]; rfl
 ·rw [if_neg c, List.getElem?_eq_none (by simpa using c)]; rfl
theorem xr {j : Nat} (hj : j < 3) (q : ∀ x ∈ (["f", "g", "h"] : List Str), Q (.str x) H) : W (aw (.str "fgh") (.int j)) H Q := by
 have h : j = 0 \/ j = 1 \/ j = 2 := by omega
 rcases h with rfl | rfl | rfl
 ·exact pf (a := .str "f") (H' := H) (by kernel_rfl) (q _ (List.mem_cons_self ..))
 ·exact pf (a := .str "g") (H' := H) (by kernel_rfl) (q _ (List.mem_cons_of_mem _ (List.mem_cons_self ..)))
 ·exact pf (a := .str "h") (H' := H) (by kernel_rfl) (q _ (List.mem_cons_of_mem _ (List.mem_cons_of_mem _ (List.mem_cons_self ..))))
theorem rF : ∀ x ∈ (["f", "g", "h"] : List Str), x ∈ NMs := by decide +kernel
noncomputable def ur (x : Str) (ns : List Int) (a : Int) : PyData := .list [.str x, .list (ns.map .int), .int a]
theorem vh {x y : Str} {ns ms : List Int} {a b : Int} (hx : PyData.strOk x = true) (hy : PyData.strOk y = true) : eqM (.fz [.str x, .fz (ns.map .int), .int a]) (.fz [.str y, .fz (ms.map .int), .int b]) H = some (decide (x = y /\ ns = ms /\ a = b), H) := by
 have p : ∀ (x : Str) (ns : List Int) (a : Int), pd 6 H (.fz [.str x, .fz (ns.map .int), .int a]) = some (ur x ns a) := fun x ns a => lD (aL rfl (aL (lD (fj _)) (aL rfl rfl)))
 have sh : ∀ (x : Str) (ns : List Int) (a : Int), PyData.strOk x = true -> SeqAt.shaped (ur x ns a) = true := fun x ns a h => by
  simp [SeqAt.shaped, ur, PyData.canLay0, PyData.canLayAll0, cS, h, PyData.depth, PyData.depthAll, bN]
 rw [fG (p x ns a) (p y ms b) (sh _ _ _ hx) (sh _ _ _ hy)]
 have e : PyData.eqv (ur x ns a) (ur y ms b) = decide (x = y /\ ns = ms /\ a = b) := by
  simp only [ur, PyData.eqv, PyData.eqvAll, kK, Bool.and_true]
  by_cases e1 : x = y <;> by_cases e2 : ns = ms <;> by_cases e3 : a = b <;> simp [e1, e2, e3]
 rw [e]
theorem we {k : Nat} {xs : List MV} (h : H.lst k = some xs) (hl : xs.length <= 1000) (q : Q (.fz (xs.take 3)) H) : W (lP (.lst k) .none (.int 3)) H Q := by
 exact ⟨_, _, obS h (if_pos (Bool.and_eq_true_iff.mpr ⟨rfl, Bool.and_eq_true_iff.mpr ⟨rfl, decide_eq_true (leA hl rfl)⟩⟩)), q⟩
structure Ctx where
 pen : Nat
 sub : Nat
 laid : Nat
 p : Nat
 s0 : Nat
 s1 : Nat
 bnd : MV
 ns : List Int
inductive mc (g : G) (c : Ctx) (r : Row) : Prop
 | mk (er : Er) (so : Nat) (sr : Sr) (e1 : g.ent r.e = some er) (e2 : er.kind = "sub") (e3 : er.name = r.nm) (e4 : er.key = some (r.ns, r.a)) (e5 : er.data = .ins 0 so) (e6 : g.ins 0 so = some (SF sr)) (e7 : Sig g c.bnd sr r.ns r.a) (e8 : er.home = some c.p) (e9 : er.unique = r.uq) (e10 : er.implicit = r.imp) (e11 : er.ready = true) (e12 : er.part = r.part) (e13 : r.imp = false -> er.overridden = false) : mc g c r
theorem mc.mono {g g' : G} {c : Ctx} {r : Row} (x : mc g c r) (h1 : ∀ er, g.ent r.e = some er -> g'.ent r.e = some er) (h2 : ∀ k fs, g.ins 0 k = some fs -> g'.ins 0 k = some fs) (h3 : ∀ sr, Sig g c.bnd sr r.ns r.a -> Sig g' c.bnd sr r.ns r.a) : mc g' c r := by
 obtain ⟨er, so, sr, e1, e2, e3, e4, e5, e6, e7, e8, e9, e10, e11, e12, e13⟩ := x
 exact ⟨er, so, sr, h1 _ e1, e2, e3, e4, e5, h2 _ _ e6, h3 _ e7, e8, e9, e10, e11, e12, e13⟩
structure eQ (g : G) (c : Ctx) (r : Row) : Prop where
 lst : g.lst r.kr = some (j8 r)
 nm : r.nm ∈ (["f", "g", "h"] : List Str)
 ns : ∀ x ∈ r.ns, x = 71 \/ x = 61
 a : r.a = 71 \/ r.a = 61 \/ r.a = -1
 nsL : r.ns.length <= 2
 part : r.part = "visible" \/ r.part = "private"
 five : r.imp = false -> r.five = false
 ex : mc g c r
theorem eQ.mono {g g' : G} {c : Ctx} {r : Row} (o : eQ g c r) (h0 : g'.lst r.kr = g.lst r.kr) (h1 : ∀ er, g.ent r.e = some er -> g'.ent r.e = some er) (h2 : ∀ k fs, g.ins 0 k = some fs -> g'.ins 0 k = some fs) (h3 : ∀ sr, Sig g c.bnd sr r.ns r.a -> Sig g' c.bnd sr r.ns r.a) : eQ g' c r :=
 ⟨h0.trans o.lst, o.nm, o.ns, o.a, o.nsL, o.part, o.five, o.ex.mono h1 h2 h3⟩
noncomputable def bO (x : Str) (ns : List Int) (a : Int) (r : Row) : Bool := decide (r.nm = x /\ r.ns = ns /\ r.a = a)
noncomputable def lrp (rp0 : Rg) (part : Str) (rows : List Row) : Rg := { rp0 with part := part, es := rp0.es ++ rows.map (fun r => (r.nm, r.e)), ord := rp0.ord ++ rows.map (·.e) }
structure dX (g0 g : G) (c : Ctx) (rp0 : Rg) (part : Str) (rows : List Row) (at' : Nat) : Prop where
 pen : g.lst c.pen = some (bV c.ns at')
 sub : g.lst c.sub = some [.ins 4 c.s0, .ins 4 c.s1]
 laid : g.lst c.laid = some (rows.map fun r => .lst r.kr)
 p0 : P1 g c.bnd c.s0 71
 p1 : P1 g c.bnd c.s1 61
 regp : g.reg c.p = some (lrp rp0 part rows)
 reg : ∀ k, k ≠ c.p -> g.reg k = g0.reg k
 root : g.root = g0.root
 ent : ∀ k r, g0.ent k = some r -> g.ent k = some r
 ins : ∀ c k fs, g0.ins c k = some fs -> g.ins c k = some fs
 dct : ∀ k xs, g0.dct k = some xs -> g.dct k = some xs
 used : g.used <= g0.used + 6 * rows.length
 rok : ∀ r ∈ rows, eQ g c r
 newE : ∀ r ∈ rows, g0.ent r.e = none
 krs : ∀ (i j : Nat) (x y : Row), rows[i]? = some x -> rows[j]? = some y -> x.kr = y.kr -> i = j
 dist : ∀ (i j : Nat) (x y : Row), i < j -> rows[i]? = some x -> rows[j]? = some y -> x.imp = false -> y.imp = false -> bO x.nm x.ns x.a y = false
theorem dX.ne_sub {g0 g : G} {c : Ctx} {rp0 : Rg} {part : Str} {rows : List Row} {i : Nat} (I : dX g0 g c rp0 part rows i) : c.sub ≠ c.pen := fun z => by
 have h1 := I.sub
 rw [z, I.pen] at h1
 have h1 := (List.cons.inj (Option.some.inj h1)).1
 cases h1
theorem dX.ne_laid {g0 g : G} {c : Ctx} {rp0 : Rg} {part : Str} {rows : List Row} {i : Nat} (I : dX g0 g c rp0 part rows i) : c.laid ≠ c.pen := fun z => by
 have h1 := I.laid
 rw [z, I.pen] at h1
 cases rows with
 | nil => cases (Option.some.inj h1)
 | cons r l => cases (List.cons.inj (Option.some.inj h1)).1
theorem dX.ne_laidS {g0 g : G} {c : Ctx} {rp0 : Rg} {part : Str} {rows : List Row} {i : Nat} (I : dX g0 g c rp0 part rows i) : c.laid ≠ c.sub := fun z => by
 have h1 := I.laid
 rw [z, I.sub] at h1
 cases rows with
 | nil => cases (Option.some.inj h1)
 | cons r l => cases (List.cons.inj (Option.some.inj h1)).1
theorem eQ.ne_lst {g : G} {c : Ctx} {r : Row} (o : eQ g c r) {k : Nat} {v : MV} {l : List MV} (h : g.lst k = some (v :: l)) (hv : ∀ s, v ≠ .str s) : r.kr ≠ k := fun z => by
 have h1 := o.lst
 rw [z, h] at h1
 exact hv _ (List.cons.inj (Option.some.inj h1)).1
theorem dX.draw {g0 g : G} {c : Ctx} {rp0 : Rg} {part : Str} {rows : List Row} {i : Nat} (I : dX g0 g c rp0 part rows i) (j : Nat) : dX g0 (g.setL c.pen (bV c.ns j)) c rp0 part rows j :=
 ⟨ah, (af I.ne_sub).trans I.sub, (af I.ne_laid).trans I.laid, I.p0.mono fun _ _ _ h => h, I.p1.mono fun _ _ _ h => h, I.regp, I.reg, I.root, I.ent, I.ins, I.dct, I.used,
  fun r hr => (I.rok r hr).mono (af ((I.rok r hr).ne_lst I.pen fun _ z => by cases z)) (fun _ h => h) (fun _ _ h => h) fun _ s => s.mono fun _ _ _ _ h => h, I.newE, I.krs, I.dist⟩
end
section
variable {g g0 : G} {H : MH} {t : Hid} {Q : MV -> MH -> Prop} {d k : Nat}
theorem vA {a b : MV} {kk : MV -> MV -> M Rho} {Q : Rho -> MH -> Prop} (q : W (kk a b) H Q) : W (un2 (.tup [a, b]) kk) H Q := by
 unfold un2
 exact aB ⟨[a, b], H, rfl, q⟩
theorem wf {k : Nat} {xs : List MV} {v : MV} (R : Rep g H) (h : g.lst k = some xs) (hl : xs.length <= 1000) (q : ∀ H', Rep (g.setL k (xs ++ [v])) H' -> Q .none H') : W (aM "append" (.lst k) [v]) H Q := by
 have h' := R.lstAt h
 obtain ⟨t, RT⟩ := R
 exact ic h' (by exact leA (by assumption) rfl) (q _ ⟨t, RT.setL h⟩)
noncomputable def dw (x : Str) (ms : List Int) (a : Int) (rv : MV) (so : Nat) (cp imp : Bool) : Er := ⟨"sub", x, some (ms, a), rv, .ins 0 so, .int 1, 0, "", none, "", .none, .none, false, cp, false, imp, false⟩
inductive o7 (g g11 : G) (rows : List Row) (re : Er) (imp : Bool) (g12 : G) (re' : Er) : Prop
 | mk (en : Nat -> Option Er) (b : Bool) (eg : g12 = (g11.wE en)) (er : re' = (re.wO b)) (hb : imp = false -> b = false)
  (old : ∀ k r, g.ent k = some r -> (∀ rw ∈ rows, rw.e ≠ k) -> en k = some r)
  (rws : ∀ rw ∈ rows, ∀ er, g.ent rw.e = some er -> er.implicit = rw.imp -> ∃ b, en rw.e = some (er.wO b) /\ (rw.imp = false -> b = er.overridden)) : o7 g g11 rows re imp g12 re'
theorem lI {g11 : G} {c : Ctx} {rp0 : Rg} {part : Str} {rows : List Row} {at2 e : Nat} {x : Str} {ms : List Int} {a : Int} {re : Er} (I5 : dX g0 g c rp0 part rows at2) (hx : sel x rp0.es = []) (fe : g.ent e = none) (g11e : ∀ k, k ≠ e -> g11.ent k = g.ent k) (re2 : re.name = x) (re3 : re.key = some (ms, a)) :
  ∀ o ∈ aJ g11 (lrp rp0 part rows) re, ∃ r ∈ rows, r.e = o /\ bO x ms a r = true /\ (g11.e o).implicit = r.imp := by
 intro o ho
 obtain ⟨h1, h2⟩ := List.mem_filter.mp ho
 obtain ⟨h3, h4⟩ := List.mem_filter.mp h1
 rw [re2] at h3
 have inRow : ∃ r ∈ rows, r.nm = x /\ r.e = o := by
  have ho := aR.mp h3
  rcases List.mem_append.mp ho with z | z
  ·have := aR.mpr z
   rw [hx] at this; cases this
  ·obtain ⟨r, hr, z⟩ := List.mem_map.mp z
   cases z
   exact ⟨r, hr, rfl, rfl⟩
 obtain ⟨r, hr, z1, z2⟩ := inRow
 obtain ⟨er, so', sr', e1, e2, e3, e4, e5, e6, e7, e8, e9, e10, e11, e12, e13⟩ := (I5.rok r hr).ex
 have ge : g11.e o = er := G.e_of (by rw [<- z2]; exact (g11e _ fun z => by rw [z, fe] at e1; cases e1).trans e1)
 rw [ge] at h2 ⊢
 refine ⟨r, hr, z2, ?_, e10⟩
 unfold hom at h2
 rw [e4, re3] at h2
 have h2 := (Bool.and_eq_true_iff.mp h2).2
 have h2 : decide (some (r.ns, r.a) = some (ms, a)) = true := by simpa using h2
 have h2 := Option.some.inj (of_decide_eq_true h2)
 unfold bO
 rw [decide_eq_true]
 exact ⟨z1, (Prod.mk.inj h2).1, (Prod.mk.inj h2).2⟩
theorem qd {g11 g12 : G} {c : Ctx} {rp0 : Rg} {part : Str} {rows : List Row} {at2 e : Nat} {x : Str} {ms : List Int} {a : Int} {re re' : Er} {imp : Bool} (I5 : dX g0 g c rp0 part rows at2) (fe : g.ent e = none) (g11e : ∀ k, k ≠ e -> g11.ent k = g.ent k) (he : g11.ent e = some re) (re5 : re.implicit = imp) (re6 : re.overridden = false)
  (riv : ∀ o ∈ aJ g11 (lrp rp0 part rows) re, ∃ r ∈ rows, r.e = o /\ bO x ms a r = true /\ (g11.e o).implicit = r.imp) (hx11 : (∃ o ∈ aJ g11 (lrp rp0 part rows) re, (g11.e o).implicit = false) -> re.implicit = true)
  (S : fW g11 (lrp rp0 part rows) e re g12) (hre' : g12.ent e = some re') : o7 g g11 rows re imp g12 re' := by
 have old11 : ∀ k r, g.ent k = some r -> g11.ent k = some r := fun k r h => (g11e k fun z => by rw [z, fe] at h; cases h).trans h
 cases S with
 | all al =>
  generalize aJ g11 (lrp rp0 part rows) re = rv at riv hx11 al hre' ⊢
  have out : ∀ k, k ∉ rv -> (g11.ovr rv).ent k = g11.ent k := fun k h => if_neg h
  have ne : e ∉ rv := fun z => by
   obtain ⟨r', hr', z1, _⟩ := riv e z
   obtain ⟨er, _, _, e1⟩ := (I5.rok r' hr').ex
   rw [z1, fe] at e1; cases e1
  rw [out e ne, he] at hre'
  obtain rfl := Option.some.inj hre'
  refine ⟨(g11.ovr rv).ent, false, rfl, by rw [<- re6], fun _ => rfl, fun k r h hk => ?_, fun rw' hrw er h him => ?_⟩
  ·refine (out k fun z => ?_).trans (old11 k r h)
   obtain ⟨r', hr', z1, _⟩ := riv k z
   exact hk r' hr' z1
  ·by_cases m : rw'.e ∈ rv
   ·refine ⟨true, (if_pos m).trans (by rw [old11 _ _ h]; rfl), fun h0 => ?_⟩
    have := al _ m
    rw [G.e_of (old11 _ _ h), him, h0] at this
    cases this
   ·exact ⟨er.overridden, (out _ m).trans (old11 _ _ h), fun _ => rfl⟩
 | me ex =>
  have z : some (re.wO true) = some re' := ah.symm.trans hre'
  obtain rfl := Option.some.inj z
  refine ⟨_, true, rfl, rfl, fun h => ?_, fun k r h hk => (af (fun z => by rw [z, fe] at h; cases h)).trans (old11 k r h), fun rw' hrw er h him => ⟨er.overridden, (af (fun z => by rw [z, fe] at h; cases h)).trans (old11 _ _ h), fun _ => rfl⟩⟩
  have := hx11 ex
  rw [re5, h] at this; cases this
noncomputable def upR (x : Str) (ms : List Int) (a : Int) (t : Bool) (r : Row) : Row := if (bO x ms a r && !r.five) = true then (r.w5 (!t)) else r
theorem bG (x : Str) (ms : List Int) (a : Int) (t : Bool) (r : Row) : ∃ b, upR x ms a t r = (r.w5 b) := by
 unfold upR
 split
 ·exact ⟨_, rfl⟩
 ·exact ⟨r.five, rfl⟩
theorem nw {β : Type} {x : Str} {ms : List Int} {a : Int} {t : Bool} {rows : List Row} (f : Row -> β) (hf : ∀ (r : Row) (b : Bool), f (r.w5 b) = f r) : (rows.map (upR x ms a t)).map f = rows.map f := by
 rw [List.map_map]
 exact List.map_congr_left fun r _ => by
  obtain ⟨b, hb⟩ := bG x ms a t r
  show f (upR x ms a t r) = f r
  rw [hb]; exact hf r b
inductive rW (g g13 : G) (c : Ctx) (RV : List Row) (taken imp : Bool) (x part : Str) (ms : List Int) (a : Int) (e : Nat) (j : Nat) (ρ : Rho) (H' : MH) : Prop
 | mk (p1 : ad ρ "is_taken" = some (.bool taken)) (p2 : ad ρ "laid" = some (.lst c.laid)) (p3 : ad ρ "name" = some (.str x)) (p4 : ad ρ "numbers" = some (.fz (ms.map .int))) (p5 : ad ρ "answer" = some (.int a)) (p6 : ad ρ "part" = some (.str part)) (p7 : ad ρ "is_implicit" = some (.bool imp)) (p8 : ad ρ "entity" = some (.ins 1 e))
  (ls : Nat -> Option (List MV)) (R : Rep (g13.wL ls) H') (q1 : ∀ r ∈ RV.take j, ls r.kr = some (j8 (r.w5 (!taken)))) (q2 : ∀ k, (∀ r ∈ RV.take j, r.kr ≠ k) -> ls k = g.lst k) : rW g g13 c RV taken imp x part ms a e j ρ H'
theorem dX.kr_eq {c : Ctx} {rp0 : Rg} {part : Str} {rows : List Row} {at2 : Nat} (I5 : dX g0 g c rp0 part rows at2) {r r' : Row} (h : r ∈ rows) (h' : r' ∈ rows) (z : r'.kr = r.kr) : r' = r := by
 obtain ⟨i1, w1⟩ := List.getElem?_of_mem h'
 obtain ⟨i2, w2⟩ := List.getElem?_of_mem h
 have := I5.krs i1 i2 r' r w1 w2 z
 rw [this, w2] at w1
 exact (Option.some.inj w1).symm
theorem ta {c : Ctx} {rp0 : Rg} {part : Str} {rows RV : List Row} {at2 j : Nat} {taken : Bool} {ls : Nat -> Option (List MV)} {r : Row} (I5 : dX g0 g c rp0 part rows at2) (RVr : ∀ r ∈ RV, r ∈ rows /\ r.five = false) (hr : r ∈ RV) (q1 : ∀ r ∈ RV.take j, ls r.kr = some (j8 (r.w5 (!taken)))) (q2 : ∀ k, (∀ r ∈ RV.take j, r.kr ≠ k) -> ls k = g.lst k) :
  ∃ b, ls r.kr = some (j8 (r.w5 b)) /\ (b || !taken) = !taken := by
 by_cases m : ∃ r' ∈ RV.take j, r'.kr = r.kr
 ·obtain ⟨r', m1, m2⟩ := m
  obtain rfl := I5.kr_eq (RVr r hr).1 (RVr r' (List.mem_of_mem_take m1)).1 m2
  exact ⟨!taken, q1 r' m1, by cases taken <;> rfl⟩
 ·refine ⟨false, ?_, by cases taken <;> rfl⟩
  rw [q2 r.kr fun r' h z => m ⟨r', h, z⟩]
  have e0 : ((r.w5 false) : Row) = r := by rw [<- (RVr r hr).2]
  rw [e0]
  exact (I5.rok r (RVr r hr).1).lst
theorem qc {c : Ctx} {rp0 : Rg} {part : Str} {rows RV : List Row} {at2 j : Nat} {taken : Bool} {ls : Nat -> Option (List MV)} {r : Row} (I5 : dX g0 g c rp0 part rows at2) (RVr : ∀ r ∈ RV, r ∈ rows /\ r.five = false) (hr : RV[j]? = some r) (q1 : ∀ r ∈ RV.take j, ls r.kr = some (j8 (r.w5 (!taken)))) (q2 : ∀ k, (∀ r ∈ RV.take j, r.kr ≠ k) -> ls k = g.lst k) :
  (∀ r' ∈ RV.take (j + 1), upd ls r.kr (j8 (r.w5 (!taken))) r'.kr = some (j8 (r'.w5 (!taken)))) /\ ∀ k, (∀ r ∈ RV.take (j + 1), r.kr ≠ k) -> upd ls r.kr (j8 (r.w5 (!taken))) k = g.lst k := by
 rw [List.take_add_one, hr]
 have hm := List.mem_of_getElem? hr
 refine ⟨fun r' h => ?_, fun k h => ?_⟩
 ·by_cases z : r'.kr = r.kr
  ·have m3 : r' ∈ RV := by
    rcases List.mem_append.mp h with w | w
    ·exact List.mem_of_mem_take w
    ·rw [List.mem_singleton.mp w]; exact hm
   obtain rfl := I5.kr_eq (RVr r hm).1 (RVr r' m3).1 z
   exact ah
  ·rcases List.mem_append.mp h with w | w
   ·exact (af z).trans (q1 r' w)
   ·exact absurd (by rw [List.mem_singleton.mp w]) z
 ·have n1 : r.kr ≠ k := h r (List.mem_append_right _ (List.mem_singleton.mpr rfl))
  exact (af (Ne.symm n1)).trans (q2 k fun r' h' => h r' (List.mem_append_left _ h'))
theorem pZ {c : Ctx} {rp0 : Rg} {part : Str} {rows RV : List Row} {at2 : Nat} {x : Str} {ms : List Int} {a : Int} {taken : Bool} {ls : Nat -> Option (List MV)} (I5 : dX g0 g c rp0 part rows at2) (RVm : ∀ r, r ∈ RV <-> r ∈ rows /\ bO x ms a r = true /\ r.five = false) (q1 : ∀ r ∈ RV, ls r.kr = some (j8 (r.w5 (!taken)))) (q2 : ∀ k, (∀ r ∈ RV, r.kr ≠ k) -> ls k = g.lst k) :
  ∀ r ∈ rows, ls r.kr = some (j8 (upR x ms a taken r)) := fun r hr => by
 unfold upR
 by_cases m : r ∈ RV
 ·have := (RVm r).mp m
  rw [if_pos (by rw [this.2.1, this.2.2]; rfl)]
  exact q1 r m
 ·rw [if_neg (fun z => m ((RVm r).mpr ⟨hr, by
   obtain ⟨z1, z2⟩ := Bool.and_eq_true_iff.mp z
   exact ⟨z1, Bool.not_eq_true' _ ▸ z2⟩⟩))]
  refine (q2 _ fun r' h z => ?_).trans (I5.rok r hr).lst
  obtain rfl := I5.kr_eq hr ((RVm r').mp h).1 z
  exact m h
structure ce (g0 g : G) (c : Ctx) (rp0 : Rg) (part : Str) (rows RV : List Row) (at2 : Nat) (n : Row) : Prop where
 I : dX g0 g c rp0 part rows at2
 RVm : ∀ r, r ∈ RV <-> r ∈ rows /\ bO n.nm n.ns n.a r = true /\ r.five = false
 tk : n.five = true <-> ∃ r ∈ RV, r.imp = false
 go : n.five = true -> n.imp = true
 nm : n.nm ∈ (["f", "g", "h"] : List Str)
 ns : ∀ x ∈ n.ns, x = 71 \/ x = 61
 a : n.a = 71 \/ n.a = 61 \/ n.a = -1
 nsL : n.ns.length <= 2
 part : n.part = "visible" \/ n.part = "private"
 fe : g.ent n.e = none
theorem ce.up_five {c : Ctx} {rp0 : Rg} {part : Str} {rows RV : List Row} {at2 : Nat} {n : Row} (N : ce g0 g c rp0 part rows RV at2 n) {r : Row} (hr : r ∈ rows) (h : r.imp = false) : (upR n.nm n.ns n.a n.five r).five = false := by
 unfold upR
 by_cases z : (bO n.nm n.ns n.a r && !r.five) = true
 ·rw [if_pos z]
  obtain ⟨z1, z2⟩ := Bool.and_eq_true_iff.mp z
  have : n.five = true := N.tk.mpr ⟨r, (N.RVm r).mpr ⟨hr, z1, Bool.not_eq_true' _ ▸ z2⟩, h⟩
  show (!n.five) = false
  rw [this]; rfl
 ·rw [if_neg z]; exact (N.I.rok r hr).five h
theorem ce.at_ {rows : List Row} {n y : Row} {f : Row -> Row} {i : Nat} (h : (rows.map f ++ [n])[i]? = some y) : (∃ r, rows[i]? = some r /\ y = f r) \/ (i = rows.length /\ y = n) := by
 by_cases lt : i < rows.length
 ·rw [List.getElem?_append_left (by rw [List.length_map]; exact lt), List.getElem?_map] at h
  obtain ⟨r, h1, h2⟩ := Option.map_eq_some_iff.mp h
  exact .inl ⟨r, h1, h2.symm⟩
 ·rw [List.getElem?_append_right (by rw [List.length_map]; exact aK _ _ 0 0 .x .y .x .y rfl (Nat.le_of_not_lt lt)), List.length_map] at h
  have : i - rows.length = 0 := by
   have := (List.getElem?_eq_some_iff.mp h).1
   have : i - rows.length < 1 := this
   exact Nat.le_antisymm (aK _ 0 0 0 (.a .x (.n 1)) (.n 1) .x (.n 0) rfl this) (iE _ 0 0 0 (.n 0) .x rfl)
  rw [this] at h
  exact .inr ⟨by omega, (Option.some.inj h).symm⟩
theorem ce.dist {c : Ctx} {rp0 : Rg} {part : Str} {rows RV : List Row} {at2 : Nat} {n : Row} (N : ce g0 g c rp0 part rows RV at2 n) (i j : Nat) (y z : Row) (hij : i < j) (hy : (rows.map (upR n.nm n.ns n.a n.five) ++ [n])[i]? = some y) (hz : (rows.map (upR n.nm n.ns n.a n.five) ++ [n])[j]? = some z) (hy0 : y.imp = false) (hz0 : z.imp = false) : bO y.nm y.ns y.a z = false := by
 rcases ce.at_ hy with ⟨r, r1, rfl⟩ | ⟨r1, rfl⟩
 ·obtain ⟨b, hb⟩ := bG n.nm n.ns n.a n.five r
  rw [hb] at hy0 ⊢
  rcases ce.at_ hz with ⟨w, w1, rfl⟩ | ⟨w1, rfl⟩
  ·obtain ⟨b', hb'⟩ := bG n.nm n.ns n.a n.five w
   rw [hb'] at hz0 ⊢
   exact N.I.dist i j r w hij r1 w1 hy0 hz0
  ·have hr := List.mem_of_getElem? r1
   show bO r.nm r.ns r.a z = false
   cases w : bO r.nm r.ns r.a z with
   | false => rfl
   | true =>
    obtain ⟨w1, w2, w3⟩ := of_decide_eq_true w
    have rv : r ∈ RV := (N.RVm r).mpr ⟨hr, decide_eq_true ⟨w1.symm, w2.symm, w3.symm⟩, (N.I.rok r hr).five hy0⟩
    rw [N.go (N.tk.mpr ⟨r, rv, hy0⟩)] at hz0
    cases hz0
 ·exfalso
  have jl := (List.getElem?_eq_some_iff.mp hz).1
  rw [List.length_append, List.length_map] at jl
  have jl : j < rows.length + 1 := jl
  exact nof (gk _ _ _ 0 (.a .x (.n 1)) .y .z .x (.a .y (.n 1)) (.a .z (.n 1)) (.n 1) (.n 0) rfl hij (geE r1) jl)
theorem ce.krs {c : Ctx} {rp0 : Rg} {part : Str} {rows RV : List Row} {at2 : Nat} {n : Row} (N : ce g0 g c rp0 part rows RV at2 n) (krRow : ∀ r ∈ rows, r.kr ≠ n.kr) (i j : Nat) (y z : Row) (hy : (rows.map (upR n.nm n.ns n.a n.five) ++ [n])[i]? = some y) (hz : (rows.map (upR n.nm n.ns n.a n.five) ++ [n])[j]? = some z) (hk : y.kr = z.kr) : i = j := by
 rcases ce.at_ hy with ⟨r, r1, ey⟩ | ⟨r1, ey⟩ <;> rcases ce.at_ hz with ⟨w, w1, ez⟩ | ⟨w1, ez⟩ <;> rw [ey, ez] at hk
 ·obtain ⟨b, hb⟩ := bG n.nm n.ns n.a n.five r
  obtain ⟨b', hb'⟩ := bG n.nm n.ns n.a n.five w
  rw [hb, hb'] at hk
  exact N.I.krs i j r w r1 w1 hk
 ·obtain ⟨b, hb⟩ := bG n.nm n.ns n.a n.five r
  rw [hb] at hk
  exact absurd hk (krRow r (List.mem_of_getElem? r1))
 ·obtain ⟨b, hb⟩ := bG n.nm n.ns n.a n.five w
  rw [hb] at hk
  exact absurd hk.symm (krRow w (List.mem_of_getElem? w1))
 ·rw [r1, w1]
theorem ce.done {g13 : G} {ls : Nat -> Option (List MV)} {c : Ctx} {rp0 : Rg} {part : Str} {rows RV : List Row} {at2 : Nat} {n : Row} (N : ce g0 g c rp0 part rows RV at2 n)
  (e0 : ∀ k r, g0.ent k = some r -> g13.ent k = some r) (f13 : ∀ rw ∈ rows, ∀ er, g.ent rw.e = some er -> er.implicit = rw.imp -> ∃ b, g13.ent rw.e = some (er.wO b) /\ (rw.imp = false -> b = er.overridden)) (nx : mc g13 c n)
  (r13 : g13.reg c.p = some (aj (lrp rp0 part rows) n.nm n.e)) (s13 : ∀ k, k ≠ c.p -> g13.reg k = g.reg k) (o13 : g13.root = g.root) (i13 : ∀ c k fs, g.ins c k = some fs -> g13.ins c k = some fs) (d13 : g13.dct = g.dct) (u13 : g13.used = g.used + 4)
  (kr1 : ls n.kr = none) (lsLaid : ls c.laid = some (rows.map fun r => .lst r.kr)) (lsPen : ls c.pen = some (bV c.ns at2)) (lsSub : ls c.sub = some [.ins 4 c.s0, .ins 4 c.s1]) (lsRow : ∀ r ∈ rows, ls r.kr = some (j8 (upR n.nm n.ns n.a n.five r))) :
  dX g0 (((g13.wL ls).setL n.kr (j8 n)).setL c.laid (rows.map (fun r => MV.lst r.kr) ++ [MV.lst n.kr])) c rp0 part (rows.map (upR n.nm n.ns n.a n.five) ++ [n]) at2 := by
 have krLaid : c.laid ≠ n.kr := fun z => by rw [z, kr1] at lsLaid; cases lsLaid
 have krPen : c.pen ≠ n.kr := fun z => by rw [z, kr1] at lsPen; cases lsPen
 have krSub : c.sub ≠ n.kr := fun z => by rw [z, kr1] at lsSub; cases lsSub
 have krRow : ∀ r ∈ rows, r.kr ≠ n.kr := fun r hr z => by have := lsRow r hr; rw [z, kr1] at this; cases this
 have neLaid : ∀ r ∈ rows, r.kr ≠ c.laid := fun r hr => by
  have h := N.I.laid
  cases hrw : rows with
  | nil => rw [hrw] at hr; cases hr
  | cons r1 l => rw [hrw] at h; exact (N.I.rok r hr).ne_lst h fun _ z => by cases z
 refine ⟨(af N.I.ne_laid.symm).trans ((af krPen).trans lsPen), (af N.I.ne_laidS.symm).trans ((af krSub).trans lsSub), ah.trans ?_, N.I.p0.mono i13, N.I.p1.mono i13, r13.trans ?_, fun k hk => (s13 k hk).trans (N.I.reg k hk), o13.trans N.I.root, e0, fun c k fs h => i13 _ _ _ (N.I.ins _ _ _ h), fun k xs h => (congrFun d13 k).trans (N.I.dct k xs h), ?_, ?_, ?_, N.krs krRow, N.dist⟩
 ·rw [List.map_append, nw (fun r : Row => MV.lst r.kr) fun _ _ => rfl]; rfl
 ·unfold aj lrp
  rw [List.map_append, List.map_append, nw (fun r : Row => (r.nm, r.e)) fun _ _ => rfl, nw (fun r : Row => r.e) fun _ _ => rfl, <- List.append_assoc, <- List.append_assoc]; rfl
 ·have := N.I.used
  rw [List.length_append, List.length_map]
  show g13.used <= g0.used + 6 * (rows.length + 1)
  exact bu _ _ _ _ .x (.a .w (.n 4)) .w (.a .y (.m 6 .z)) .x (.a .y (.m 6 (.a .z (.n 1)))) rfl (Nat.le_of_eq u13) this
 ·intro r' hr'
  rcases List.mem_append.mp hr' with z | z
  ·obtain ⟨r, hr, rfl⟩ := List.mem_map.mp z
   have o := N.I.rok r hr
   have l := lsRow r hr
   have five := N.up_five hr
   obtain ⟨b, hb⟩ := bG n.nm n.ns n.a n.five r
   rw [hb] at l five ⊢
   refine ⟨(af (neLaid r hr)).trans ((af (krRow r hr)).trans l), o.nm, o.ns, o.a, o.nsL, o.part, five, ?_⟩
   obtain ⟨er, so', sr', e1, e2, e3, e4, e5, e6, e7, e8, e9, e10, e11, e12, e13'⟩ := o.ex
   obtain ⟨b, b1, b2⟩ := f13 r hr er e1 e10
   exact ⟨(er.wO b), so', sr', b1, e2, e3, e4, e5, i13 _ _ _ e6, e7.mono fun c k fs _ h => i13 _ _ _ h, e8, e9, e10, e11, e12, fun h => (b2 h).trans (e13' h)⟩
  ·rw [List.mem_singleton.mp z]
   refine ⟨(af krLaid.symm).trans ah, N.nm, N.ns, N.a, N.nsL, N.part, fun h => ?_, nx.mono (fun _ h => h) (fun _ _ h => h) fun _ s => s.mono fun _ _ _ _ h => h⟩
   cases w : n.five with
   | false => rfl
   | true => rw [N.go w] at h; cases h
 ·intro r' hr'
  rcases List.mem_append.mp hr' with z | z
  ·obtain ⟨r, hr, rfl⟩ := List.mem_map.mp z
   obtain ⟨b, hb⟩ := bG n.nm n.ns n.a n.five r
   rw [hb]; exact N.I.newE r hr
  ·rw [List.mem_singleton.mp z]
   cases w : g0.ent n.e with
   | none => rfl
   | some r =>
    have := N.I.ent n.e r w
    rw [N.fe] at this; cases this
theorem xn {c : Ctx} {rp0 rr0 : Rg} {part : Str} {rows : List Row} {at' nf : Nat} (R : Rep g H) (I : dX g0 g c rp0 part rows at') (hpart : part = "visible" \/ part = "private") (hat : at' + 10 <= 1000) (hns : c.ns.length <= 100) (hrows : rows.length <= 20) (hrp0 : g0.reg c.p = some rp0) (hroot : g0.reg g0.root = some rr0) (hne : g0.root ≠ c.p) (F : Fr g0 c.p nf) (hnf : nf < 19) (hsel0 : ∀ x ∈ (["f", "g", "h"] : List Str), sel x rp0.es = []) (hu : g0.used + 200 <= 1000)
  (q : ∀ H' g' rows' at2, Rep g' H' -> dX g0 g' c rp0 part rows' at2 -> rows'.length <= rows.length + 1 -> at2 <= at' + 6 -> Q .none H') : W (fn (d + 6) "_law_lay" [.lst c.pen, .ins 2 c.p, .lst c.sub, .str part, .lst c.laid]) H Q := by
 have nePS := I.ne_sub
 rw [lj]
 repeat trivial
 refine c8 (m := 3) R I.pen hns (by exact aK _ 0 0 0 (.a .x (.n 10)) (.n 1000) .x (.n 1000) rfl hat) (by decide) (by decide) fun H1 j1 h1 R1 => ?_
 repeat trivial
 refine xr h1 fun x hx => ?_
 have hxN := rF x hx
 repeat trivial
 have I1 : (g.setL c.pen (bV c.ns (at' + 1))).lst c.pen = some (bV c.ns (at' + 1)) := ah
 refine c8 (m := 3) R1 I1 hns (by exact wT (by assumption) rfl rfl) (by decide) (by decide) fun H2 j2 h2 R2 => ?_
 rw [dK] at R2
 repeat trivial
 refine qK (by exact ltA (by assumption) rfl) fun s hn hi => ?_
 repeat trivial
 refine fR ((List.range j2).map fun i => MV.int (i : Nat)) (fun j ys H' => Rep (g.setL c.pen (bV c.ns (at' + 2 + j))) H' /\ ∃ ss : List (Nat × Int), ys = ss.map (fun s => MV.ins 4 s.1) /\ ss.length = j /\ ∀ s ∈ ss, P1 g c.bnd s.1 s.2 /\ (s.2 = 71 \/ s.2 = 61)) hn ⟨R2, [], rfl, rfl, (fun _ h => nomatch h)⟩ (fun j ys H' p => hi H') (fun j v ys H' hv p => ?_) fun ys H3 p => ?_
 ·obtain ⟨Rj, ss, rfl, sl, sp⟩ := p
  have jl : j < j2 := by
   have := (List.getElem?_eq_some_iff.mp hv).1
   simpa using this
  have Ij : (g.setL c.pen (bV c.ns (at' + 2 + j))).lst c.pen = some (bV c.ns (at' + 2 + j)) := ah
  repeat trivial
  refine c8 (m := 2) Rj Ij hns (by exact gk _ _ _ 0 (.a .x (.n 10)) (.n 1000) (.a .z (.n 1)) (.n 3) (.a .y (.n 1)) .z (.a (.a .x (.n 2)) .y) (.n 1000) rfl hat h2 jl) (by decide) (by decide) fun H4 i4 h4 R4 => ?_
  rw [dK] at R4
  have S4 : (g.setL c.pen (bV c.ns (at' + 2 + j + 1))).lst c.sub = some [.ins 4 c.s0, .ins 4 c.s1] := (af nePS).trans I.sub
  repeat trivial
  have hi4 : i4 = 0 \/ i4 = 1 := by omega
  have pick : ∃ s n, [MV.ins 4 c.s0, MV.ins 4 c.s1][i4]? = some (.ins 4 s) /\ P1 g c.bnd s n /\ (n = 71 \/ n = 61) := by
   rcases hi4 with rfl | rfl
   ·exact ⟨c.s0, 71, rfl, I.p0, .inl rfl⟩
   ·exact ⟨c.s1, 61, rfl, I.p1, .inr rfl⟩
  obtain ⟨s, n, k1, k2, k3⟩ := pick
  refine bT (R4.lstAt S4) (by simp) k1 ?_
  repeat trivial
  refine ⟨R4, ss ++ [(s, n)], by rw [List.map_append]; rfl, by rw [List.length_append, sl]; rfl, fun z hz => ?_⟩
  rcases List.mem_append.mp hz with w | w
  ·exact sp z w
  ·rw [List.mem_singleton.mp w]; exact ⟨k2, k3⟩
 obtain ⟨R3, ss, rfl, sl, sp⟩ := p
 rw [List.length_map, List.length_range] at R3 sl
 have sl2 : ss.length <= 2 := by exact bu _ _ 0 0 (.a .y (.n 1)) (.n 3) .x .y .x (.n 2) rfl h2 (Nat.le_of_eq sl)
 refine eY (by rw [List.length_map]; exact leA (by assumption) rfl) ?_
 have S3 : (g.setL c.pen (bV c.ns (at' + 2 + j2))).lst c.sub = some [.ins 4 c.s0, .ins 4 c.s1] := (af nePS).trans I.sub
 have I3 : (g.setL c.pen (bV c.ns (at' + 2 + j2))).lst c.pen = some (bV c.ns (at' + 2 + j2)) := ah
 repeat trivial
 refine bT (i := 0) (R3.lstAt S3) (by simp) rfl ?_
 repeat trivial
 refine bT (i := 1) (R3.lstAt S3) (by simp) rfl ?_
 repeat trivial
 refine c8 (m := 3) R3 I3 hns (by exact bu _ _ 0 0 (.a .x (.n 10)) (.n 1000) (.a .y (.n 1)) (.n 3) (.a (.a .x (.n 2)) .y) (.n 1000) rfl hat h2) (by decide) (by decide) fun H4 j4 h4 R4 => ?_
 rw [dK] at R4
 have hres : ∃ rv a, [MV.none, .ins 4 c.s0, .ins 4 c.s1][j4]? = some rv /\ ((rv = .none /\ a = -1) \/ ∃ s, rv = .ins 4 s /\ P1 g c.bnd s a) /\ (a = 71 \/ a = 61 \/ a = -1) := by
  have h : j4 = 0 \/ j4 = 1 \/ j4 = 2 := by omega
  rcases h with rfl | rfl | rfl
  ·exact ⟨.none, -1, rfl, .inl ⟨rfl, rfl⟩, .inr (.inr rfl)⟩
  ·exact ⟨.ins 4 c.s0, 71, rfl, .inr ⟨_, rfl, I.p0⟩, .inl rfl⟩
  ·exact ⟨.ins 4 c.s1, 61, rfl, .inr ⟨_, rfl, I.p1⟩, .inr (.inl rfl)⟩
 obtain ⟨rv, a, rv1, rv2, ha⟩ := hres
 repeat trivial
 refine aU (i := j4) (by simp) rv1 ?_
 have I4 : (g.setL c.pen (bV c.ns (at' + 2 + j2 + 1))).lst c.pen = some (bV c.ns (at' + 2 + j2 + 1)) := ah
 repeat trivial
 refine c8 (m := 4) R4 I4 hns (by exact bu _ _ 0 0 (.a .x (.n 10)) (.n 1000) (.a .y (.n 1)) (.n 3) (.a (.a (.a .x (.n 2)) .y) (.n 1)) (.n 1000) rfl hat h2) (by decide) (by decide) fun H5 j5 h5 R5 => ?_
 rw [dK] at R5
 repeat trivial
 generalize himp : decide (((j5 : Nat) : Int) = 1) = imp
 generalize hat2 : at' + 2 + j2 + 1 + 1 = at2 at R5
 have I5 := I.draw at2
 have sp : ∀ s ∈ ss, P1 (g.setL c.pen (bV c.ns at2)) c.bnd s.1 s.2 /\ (s.2 = 71 \/ s.2 = 61) := fun s hs => ⟨(sp s hs).1.mono fun _ _ _ h => h, (sp s hs).2⟩
 have rv2 : (rv = .none /\ a = -1) \/ ∃ s, rv = .ins 4 s /\ P1 (g.setL c.pen (bV c.ns at2)) c.bnd s a := by
  rcases rv2 with z | ⟨s, z1, z2⟩
  ·exact .inl z
  ·exact .inr ⟨s, z1, z2.mono fun _ _ _ h => h⟩
 have hat3 : at2 <= at' + 6 := by exact bu _ _ _ 0 (.a .z (.n 1)) (.n 3) .x (.a (.a (.a (.a .y (.n 2)) .z) (.n 1)) (.n 1)) .x (.a .y (.n 6)) rfl h2 (geE hat2)
 clear I1 I3 I4 R1 R2 R3 R4 S3 nePS R I
 generalize g.setL c.pen (bV c.ns at2) = g at R5 I5 sp rv2
 refine bm (by rw [List.length_map]; exact leA (by assumption) rfl) fun s6 hn6 hi6 => ?_
 repeat trivial
 refine bD ss (fun s => MV.ins 4 s.1) (fun s => some (.int s.2)) hn6 (hi6 H5) (fun s hs => ?_) ?_
 ·obtain ⟨⟨k0, r0, cc, c1, c2, c3, c4, c5, c6⟩, _⟩ := sp s hs
  repeat trivial
  rw [c3]
  exact ⟨rfl, rfl⟩
 have fm : ss.filterMap (fun s => some (MV.int s.2)) = (ss.map (·.2)).map MV.int := by
  rw [List.filterMap_eq_map', List.map_map]; rfl
 rw [fm]
 have spA : ∀ n ∈ ss.map (·.2), n = 71 \/ n = 61 := fun n hn => by
  obtain ⟨s, hs, rfl⟩ := List.mem_map.mp hn
  exact (sp s hs).2
 refine eY (by rw [List.length_map, List.length_map]; exact leA (by assumption) rfl) ?_
 refine aB (aI (Q := fun x H2 => x = .int a /\ H2 = H5) ?_ ?_)
 ·rcases rv2 with ⟨rfl, r2⟩ | ⟨s', rfl, k0, q0, cc, c1, c2, c3, c4, c5, c6⟩
  ·repeat trivial
   exact ⟨by rw [r2], rfl⟩
  ·repeat trivial
   exact ⟨by rw [c3], rfl⟩
 rintro _ H6 ⟨rfl, hH⟩
 rw [hH]
 clear hH H6
 repeat trivial
 refine lY ?_
 repeat trivial
 refine cy (R5.lstAt I5.laid) (by rw [List.length_map]; exact leA (by assumption) rfl) fun s7 hn7 hi7 => ?_
 repeat trivial
 generalize hms : ss.map (·.2) = ms
 rw [hms] at spA
 refine bD rows (fun r => MV.lst r.kr) (fun r => if bO x ms a r && !r.five then some (.lst r.kr) else none) hn7 (hi7 H5 (R5.lstAt I5.laid)) (fun r hr => ?_) ?_
 ·have ro := I5.rok r hr
  repeat trivial
  refine we (R5.lstAt ro.lst) (Nat.le_of_ble_eq_true rfl) ?_
  repeat trivial
  refine pf (iO (vh (jv _ (rF _ ro.nm)) (jv _ hxN))) ?_
  repeat trivial
  show pc _ _ (bO x ms a r) _
  cases c1 : bO x ms a r
  ·repeat trivial
  ·repeat trivial
   refine bT (i := 5) (R5.lstAt ro.lst) (Nat.le_of_ble_eq_true rfl) rfl ?_
   repeat trivial
   cases r.five
   ·repeat trivial
   ·repeat trivial
 have fm2 := hI (fun r : Row => bO x ms a r && !r.five) (fun r => r.kr) MV.lst rows
 rw [List.map_map] at fm2
 have fm2 : rows.filterMap (fun r => if (bO x ms a r && !r.five) = true then some (MV.lst r.kr) else none) = (rows.filter fun r => bO x ms a r && !r.five).map fun r => MV.lst r.kr := fm2
 rw [fm2]
 generalize hRV : (rows.filter fun r => bO x ms a r && !r.five) = RV
 have RVm : ∀ r, r ∈ RV <-> r ∈ rows /\ bO x ms a r = true /\ r.five = false := by
  subst hRV
  intro r
  rw [List.mem_filter, Bool.and_eq_true, Bool.not_eq_true']
 have RVl : RV.length <= 20 := by
  subst hRV
  exact Nat.le_trans (bf _ _) hrows
 refine eY (by rw [List.length_map]; exact leA (by assumption) rfl) ?_
 repeat trivial
 refine bm (by rw [List.length_map]; exact leA (by assumption) rfl) fun s8 hn8 hi8 => ?_
 repeat trivial
 refine bD RV (fun r => MV.lst r.kr) (fun r => if !r.imp then some (.lst r.kr) else none) hn8 (hi8 H5) (fun r hr => ?_) ?_
 ·have ro := I5.rok r ((RVm r).mp hr).1
  repeat trivial
  refine bT (i := 4) (R5.lstAt ro.lst) (Nat.le_of_ble_eq_true rfl) rfl ?_
  repeat trivial
  cases r.imp
  ·repeat trivial
  ·repeat trivial
 refine eY (Nat.le_trans (List.length_filterMap_le _ _) (by exact leA (by assumption) rfl)) ?_
 repeat trivial
 refine iX (Nat.le_trans (List.length_filterMap_le _ _) (by exact leA (by assumption) rfl)) ?_
 have tk : ∃ taken : Bool, (!(RV.filterMap fun r => if (!r.imp) = true then some (MV.lst r.kr) else none).isEmpty) = taken /\ (taken = true <-> ∃ r ∈ RV, r.imp = false) := by
  refine ⟨_, rfl, ?_⟩
  constructor
  ·intro h
   cases z : RV.filterMap (fun r => if (!r.imp) = true then some (MV.lst r.kr) else none) with
   | nil => rw [z] at h; cases h
   | cons v l =>
    have : v ∈ RV.filterMap (fun r => if (!r.imp) = true then some (MV.lst r.kr) else none) := by rw [z]; exact List.mem_cons_self ..
    obtain ⟨r, hr, h2⟩ := List.mem_filterMap.mp this
    refine ⟨r, hr, ?_⟩
    cases w : r.imp with
    | false => rfl
    | true => rw [w] at h2; cases h2
  ·rintro ⟨r, hr, h⟩
   have : MV.lst r.kr ∈ RV.filterMap (fun r => if (!r.imp) = true then some (MV.lst r.kr) else none) := List.mem_filterMap.mpr ⟨r, hr, by rw [h]; rfl⟩
   cases z : RV.filterMap (fun r => if (!r.imp) = true then some (MV.lst r.kr) else none) with
   | nil => rw [z] at this; cases this
   | cons v l => rfl
 obtain ⟨taken, tk1, tk2⟩ := tk
 dsimp only [ww]
 rw [tk1]
 refine bZ (bp ?_)
 refine dU (aB (aI (Q := fun b H2 => b = (taken && !imp) /\ H2 = H5) ?_ ?_))
 ·cases taken
  ·repeat trivial
  ·cases imp
   ·repeat trivial
   ·repeat trivial
 rintro _ H6 ⟨rfl, hH⟩
 rw [hH]
 clear hH H6
 refine dW (fun stop => ?_) fun stop => ?_
 ·repeat trivial
  exact q H5 g rows at2 R5 I5 (Nat.le_succ _) hat3
 have go : taken = true -> imp = true := fun h => by
  rw [h] at stop
  cases imp
  ·cases stop
  ·rfl
 repeat trivial
 refine wk R5 fun so H6 r0 fs rn R6 => ?_
 repeat trivial
 refine rP (by rw [List.length_map]; exact leA (by assumption) rfl) ?_
 rw [List.length_map]
 repeat trivial
 refine qK (by exact leA (by assumption) rfl) fun s9 hn9 hi9 => ?_
 repeat trivial
 refine fR ((List.range ss.length).map fun i => MV.int (i : Nat)) (fun j ys H' => H' = H6 /\ ∃ ps : List (Str × Nat), ys = ps.map gb /\ fY (fun (p : Str × Nat) n => P1 g c.bnd p.2 n) ps (ms.take j)) hn9 ⟨rfl, [], rfl, .nil⟩ (fun j ys H' p => hi9 H') (fun j v ys H' hv p => ?_) fun ys H7 p => ?_
 ·obtain ⟨rfl, ps, rfl, pa⟩ := p
  have jl : j < ss.length := by
   have := (List.getElem?_eq_some_iff.mp hv).1
   simpa using this
  have hv2 : v = .int (j : Nat) := by
   rw [List.getElem?_map, List.getElem?_range jl] at hv
   exact (Option.some.inj hv).symm
  subst hv2
  repeat trivial
  refine rM (by exact leA (leT (by assumption) (by assumption)) rfl) ?_
  repeat trivial
  refine oV (by decide +kernel) (Nat.le_trans (ik j (by exact leA (leT (by assumption) (by assumption)) rfl)).1 (by decide)) ?_
  repeat trivial
  refine oI (i := j) (v := .ins 4 ss[j].1) (by rw [List.length_map]; exact leA (by assumption) rfl) (by rw [List.getElem?_map, List.getElem?_eq_getElem jl]; rfl) ?_
  repeat trivial
  refine ⟨rfl, ps ++ [("x" ++ gF (Int.ofNat j), ss[j].1)], by rw [List.map_append]; rfl, ?_⟩
  rw [List.take_add_one, <- hms, List.getElem?_map, List.getElem?_eq_getElem jl]
  rw [hms]
  exact pa.snoc (sp _ (List.getElem_mem jl)).1
 obtain ⟨hH, ps, rfl, pa⟩ := p
 rw [hH]
 clear hH H7
 rw [List.length_map, List.length_range] at pa
 have ml : ms.length = ss.length := by rw [<- hms, List.length_map]
 rw [<- ml, List.take_length] at pa
 have pl : ps.length <= 2 := by rw [pa.len, ml]; exact sl2
 refine eY (by rw [List.length_map]; exact leA (by assumption) rfl) ?_
 repeat trivial
 refine gI (fs' := SF (r0.wPs (.fz (ps.map gb)))) R6 aO (by kernel_rfl) (by kernel_rfl) (oZ _) fun H7 R7 => ?_
 repeat trivial
 refine gI (fs' := SF ((r0.wPs (.fz (ps.map gb))).wRs rv)) R7 aO (by kernel_rfl) (by kernel_rfl) (oZ _) fun H8 R8 => ?_
 have z8 : ((g.setI 0 so (SF r0)).setI 0 so (SF (r0.wPs (.fz (ps.map gb))))).setI 0 so (SF ((r0.wPs (.fz (ps.map gb))).wRs rv)) = g.setI 0 so (SF ((r0.wPs (.fz (ps.map gb))).wRs rv)) := by
  unfold G.setI
  congr 1
  funext c'
  by_cases e : c' = 0
  ·subst e; simp only [if_true, df]
  ·simp only [if_neg e]
 rw [z8] at R8
 have Sg : Sig g c.bnd ((r0.wPs (.fz (ps.map gb))).wRs rv) ms a := ⟨⟨ps, rfl, pa, by exact leA (by assumption) rfl⟩, rv2⟩
 generalize (((r0.wPs (.fz (ps.map gb))).wRs rv) : Sr) = sr at R8 Sg
 clear z8 R7 R6 rn pa
 have gi8 := aN (fs := SF sr) fs
 have so8 : (g.setI 0 so (SF sr)).ins 0 so = some (SF sr) := aO
 repeat trivial
 refine qH (by rw [List.length_map, ml]; exact leA (by assumption) rfl) ?_
 repeat trivial
 refine eZ (kind := "sub") (key := some (ms, a)) (by decide +kernel) hxN R8 fun e H9 fe R9 => ?_
 have R9 : Rep ((g.setI 0 so (SF sr)).setE e (dw x ms a rv so false false)) H9 := R9
 repeat trivial
 refine vA ?_
 repeat trivial
 refine bz (r := dw x ms a rv so false false) (r' := dw x ms a rv so false imp) R9 ah (by kernel_rfl) (by kernel_rfl) rfl (fun o => ⟨o.kind, o.name, o.part, o.uniq⟩) fun H10 R10 => ?_
 rw [aX] at R10
 repeat trivial
 refine bz (r := dw x ms a rv so false imp) (r' := dw x ms a rv so true imp) R10 ah (by kernel_rfl) (by kernel_rfl) rfl (fun o => ⟨o.kind, o.name, o.part, o.uniq⟩) fun H11 R11 => ?_
 rw [aX] at R11
 clear R8 R9 R10
 have fe : g.ent e = none := fe
 have g11e : ∀ k, k ≠ e -> ((g.setI 0 so (SF sr)).setE e (dw x ms a rv so true imp)).ent k = g.ent k := fun k h => af h
 have he11 : ((g.setI 0 so (SF sr)).setE e (dw x ms a rv so true imp)).ent e = some (dw x ms a rv so true imp) := ah
 have i11 : ∀ c k fs, g.ins c k = some fs -> ((g.setI 0 so (SF sr)).setE e (dw x ms a rv so true imp)).ins c k = some fs := gi8
 have so11 : ((g.setI 0 so (SF sr)).setE e (dw x ms a rv so true imp)).ins 0 so = some (SF sr) := so8
 have o11 : ((g.setI 0 so (SF sr)).setE e (dw x ms a rv so true imp)).reg = g.reg /\ ((g.setI 0 so (SF sr)).setE e (dw x ms a rv so true imp)).root = g.root /\ ((g.setI 0 so (SF sr)).setE e (dw x ms a rv so true imp)).lst = g.lst /\ ((g.setI 0 so (SF sr)).setE e (dw x ms a rv so true imp)).dct = g.dct /\ ((g.setI 0 so (SF sr)).setE e (dw x ms a rv so true imp)).used = g.used := ⟨rfl, rfl, rfl, rfl, rfl⟩
 generalize (g.setI 0 so (SF sr)).setE e (dw x ms a rv so true imp) = g11 at R11 g11e he11 i11 so11 o11
 obtain ⟨reg11, root11, lst11, dct11, used11⟩ := o11
 clear gi8 so8
 have riv := lI (g11 := g11) (re := dw x ms a rv so true imp) I5 (hsel0 x hx) fe g11e rfl rfl
 have hx11 : (∃ o ∈ aJ g11 (lrp rp0 part rows) (dw x ms a rv so true imp), (g11.e o).implicit = false) -> (dw x ms a rv so true imp).implicit = true := by
  rintro ⟨o, ho, h1⟩
  obtain ⟨r, hr, z1, z2, z3⟩ := riv o ho
  rw [z3] at h1
  exact go (tk2.mpr ⟨r, (RVm r).mpr ⟨hr, z2, (I5.rok r hr).five h1⟩, h1⟩)
 repeat trivial
 refine fQ (n := nf) (r := lrp rp0 part rows) (rr := rr0) R11 ((congrFun reg11 _).trans I5.regp) (by rw [reg11, root11, I5.root]; exact (I5.reg _ hne).trans hroot) he11 (F.mono fun k s hk => ?_) hnf (by rw [used11]; have := I5.used; exact gk _ _ _ 0 (.m 6 .y) (.m 6 (.n 20)) (.a .z (.n 200)) (.n 1000) .x (.a .z (.m 6 .y)) (.a .x (.n 10)) (.n 1000) rfl (Nat.mul_le_mul_left 6 hrows) hu this) hx11 fun H12 g12 re' num u S hre' su R12 => ?_
 ·by_cases z : k = c.p
  ·subst z
   rw [hrp0] at hk; cases hk
   exact ⟨_, (congrFun reg11 _).trans I5.regp, rfl, rfl⟩
  ·exact ⟨s, (congrFun reg11 _).trans ((I5.reg k z).trans hk), rfl, rfl⟩
 obtain ⟨en, ovb, rfl, rfl, hovb, old12, rws12⟩ := qd I5 fe g11e he11 rfl rfl riv hx11 S hre'
 have R12 : Rep ((((g11.wE en).setE e (aF ((dw x ms a rv so true imp).wO ovb) c.p (lrp rp0 part rows) num u)).setR c.p (aj (lrp rp0 part rows) x e)).setU (g11.used + 4)) H12 := R12
 clear riv hx11 S hre' R11
 have e13 : ((((g11.wE en).setE e (aF ((dw x ms a rv so true imp).wO ovb) c.p (lrp rp0 part rows) num u)).setR c.p (aj (lrp rp0 part rows) x e)).setU (g11.used + 4)).ent e = some (aF ((dw x ms a rv so true imp).wO ovb) c.p (lrp rp0 part rows) num u) := ah
 have n13 : ∀ k, k ≠ e -> ((((g11.wE en).setE e (aF ((dw x ms a rv so true imp).wO ovb) c.p (lrp rp0 part rows) num u)).setR c.p (aj (lrp rp0 part rows) x e)).setU (g11.used + 4)).ent k = en k := fun k h => af h
 have r13 : ((((g11.wE en).setE e (aF ((dw x ms a rv so true imp).wO ovb) c.p (lrp rp0 part rows) num u)).setR c.p (aj (lrp rp0 part rows) x e)).setU (g11.used + 4)).reg c.p = some (aj (lrp rp0 part rows) x e) := ah
 have s13 : ∀ k, k ≠ c.p -> ((((g11.wE en).setE e (aF ((dw x ms a rv so true imp).wO ovb) c.p (lrp rp0 part rows) num u)).setR c.p (aj (lrp rp0 part rows) x e)).setU (g11.used + 4)).reg k = g11.reg k := fun k hk => af hk
 have o13 : ((((g11.wE en).setE e (aF ((dw x ms a rv so true imp).wO ovb) c.p (lrp rp0 part rows) num u)).setR c.p (aj (lrp rp0 part rows) x e)).setU (g11.used + 4)).root = g11.root /\ ((((g11.wE en).setE e (aF ((dw x ms a rv so true imp).wO ovb) c.p (lrp rp0 part rows) num u)).setR c.p (aj (lrp rp0 part rows) x e)).setU (g11.used + 4)).lst = g11.lst /\ ((((g11.wE en).setE e (aF ((dw x ms a rv so true imp).wO ovb) c.p (lrp rp0 part rows) num u)).setR c.p (aj (lrp rp0 part rows) x e)).setU (g11.used + 4)).dct = g11.dct /\ ((((g11.wE en).setE e (aF ((dw x ms a rv so true imp).wO ovb) c.p (lrp rp0 part rows) num u)).setR c.p (aj (lrp rp0 part rows) x e)).setU (g11.used + 4)).used = g11.used + 4 := ⟨rfl, rfl, rfl, rfl⟩
 have i13 : ((((g11.wE en).setE e (aF ((dw x ms a rv so true imp).wO ovb) c.p (lrp rp0 part rows) num u)).setR c.p (aj (lrp rp0 part rows) x e)).setU (g11.used + 4)).ins = g11.ins := rfl
 generalize ((((g11.wE en).setE e (aF ((dw x ms a rv so true imp).wO ovb) c.p (lrp rp0 part rows) num u)).setR c.p (aj (lrp rp0 part rows) x e)).setU (g11.used + 4)) = g13 at R12 e13 n13 r13 s13 o13 i13
 obtain ⟨root13, lst13, dct13, used13⟩ := o13
 have RVr : ∀ r ∈ RV, r ∈ rows /\ r.five = false := fun r h => ⟨((RVm r).mp h).1, ((RVm r).mp h).2.2⟩
 repeat trivial
 refine bm (by rw [List.length_map]; exact leA (by assumption) rfl) fun s10 hn10 hi10 => ?_
 repeat trivial
 refine gp (RV.map fun r => MV.lst r.kr) (rW g g13 c RV taken imp x part ms a e) hn10 ⟨rfl, rfl, rfl, rfl, rfl, rfl, rfl, rfl, g13.lst, R12, (fun _ h => nomatch h), fun k _ => by rw [lst13, lst11]⟩ (fun j ρ H' p => hi10 H') (fun j v ρ H' hv p => ?_) fun ρ H13 p => ?_
 ·obtain ⟨p1, p2, p3, p4, p5, p6, p7, p8, ls, Rj, q1, q2⟩ := p
  rw [List.getElem?_map] at hv
  obtain ⟨r, hr, rfl⟩ := Option.map_eq_some_iff.mp hv
  obtain ⟨b, b1, b2⟩ := ta I5 RVr (List.mem_of_getElem? hr) q1 q2
  have hb1 : (g13.wL ls).lst r.kr = some (j8 (r.w5 b)) := b1
  refine dU (aB (aI (Q := fun v H2 => v = .bool (!taken) /\ H2 = H') ?_ ?_))
  ·repeat trivial
   refine bT (i := 5) (Rj.lstAt hb1) (Nat.le_of_ble_eq_true rfl) rfl ?_
   repeat trivial
   refine yE (fun w => ?_) fun w => ?_
   ·repeat trivial
   ·have w : b = true := w
    rw [w] at b2
    exact ⟨by rw [<- b2]; rfl, rfl⟩
  rintro _ H14 ⟨rfl, hH⟩
  rw [hH]
  clear hH H14
  repeat trivial
  refine gH (i := 5) Rj hb1 (Nat.le_of_ble_eq_true rfl) (Nat.le_of_ble_eq_true rfl) fun H14 R14 => ?_
  repeat trivial
  have nx := qc I5 RVr hr q1 q2
  exact ⟨p1, p2, p3, p4, p5, p6, p7, p8, _, R14, nx.1, nx.2⟩
 obtain ⟨p1, p2, p3, p4, p5, p6, p7, p8, ls, R13, q1, q2⟩ := p
 rw [List.length_map, List.take_length] at q1 q2
 have neLaid : ∀ r ∈ RV, r.kr ≠ c.laid := fun r hr => by
  have h := I5.laid
  have hr := (RVr r hr).1
  cases hrw : rows with
  | nil => rw [hrw] at hr; cases hr
  | cons r1 l => rw [hrw] at h; exact (I5.rok r hr).ne_lst h fun _ z => by cases z
 have lsLaid : ls c.laid = some (rows.map fun r => .lst r.kr) := (q2 _ neLaid).trans I5.laid
 have lsPen : ls c.pen = some (bV c.ns at2) := (q2 _ fun r h => (I5.rok r (RVr r h).1).ne_lst I5.pen fun _ z => by cases z).trans I5.pen
 have lsSub : ls c.sub = some [.ins 4 c.s0, .ins 4 c.s1] := (q2 _ fun r h => (I5.rok r (RVr r h).1).ne_lst I5.sub fun _ z => by cases z).trans I5.sub
 have lsRow := pZ I5 RVm q1 q2
 have hl13 : (g13.wL ls).lst c.laid = some (rows.map fun r => .lst r.kr) := lsLaid
 repeat trivial
 refine eE (R13.lstAt hl13) (by decide +kernel) ?_
 repeat trivial
 refine kS R13 fun kr H14 kr1 kr2 R14 => ?_
 have kr1 : ls kr = none := kr1
 have krLaid : c.laid ≠ kr := fun z => by rw [z, kr1] at lsLaid; cases lsLaid
 repeat trivial
 refine wf R14 ((af krLaid).trans lsLaid) (by rw [List.length_map]; exact leA (by assumption) rfl) fun H15 R15 => ?_
 repeat trivial
 refine q H15 _ (rows.map (upR x ms a taken) ++ [(⟨x, ms, a, part, imp, taken, e, kr, u⟩ : Row)]) at2 R15 (ce.done (n := ⟨x, ms, a, part, imp, taken, e, kr, u⟩) ⟨I5, RVm, tk2, go, hx, spA, ha, Nat.le_trans (Nat.le_of_eq ml) sl2, hpart, fe⟩ (fun k r h => ?_) (fun rw' hrw er h him => ?_) ?_ r13 (fun k hk => (s13 k hk).trans (congrFun reg11 k)) (root13.trans root11) (fun c k fs h => by rw [i13]; exact i11 _ _ _ h) (dct13.trans dct11) (used13.trans (by rw [used11])) kr1 lsLaid lsPen lsSub lsRow) (by rw [List.length_append, List.length_map]; exact Nat.le_refl _) hat3
 ·have h1 := I5.ent k r h
  exact (n13 k fun z => by rw [z, fe] at h1; cases h1).trans (old12 k r h1 fun rw' hrw z => by
   have := I5.newE rw' hrw
   rw [z, h] at this; cases this)
 ·obtain ⟨b, b1, b2⟩ := rws12 rw' hrw er h him
  exact ⟨b, (n13 _ fun z => by rw [z, fe] at h; cases h).trans b1, b2⟩
 ·exact ⟨_, so, sr, e13, rfl, rfl, rfl, rfl, by rw [i13]; exact so11, Sg.mono fun c k fs _ h => by rw [i13]; exact i11 _ _ _ h, rfl, rfl, rfl, rfl, rfl, hovb⟩
end
section
variable {g : G} {H : MH} {t : Hid} {Q : MV -> MH -> Prop} {d k : Nat}
structure Lw where
 ka : Nat
 ksc : Nat
 kt : Nat
 ke : Nat
 pv : Bool
 ra : Rg
 rp : Rg
 rr : Rg
 sc : Scr
structure jV (ρ : Rho) (c : Ctx) (L : Lw) : Prop where
 pen : ad ρ "pen" = some (.lst c.pen)
 scope : ad ρ "scope" = some (.ins 5 L.ksc)
 around : ad ρ "around" = some (.ins 2 L.ka)
 region : ad ρ "region" = some (.ins 2 c.p)
 pv : ad ρ "is_private" = some (.bool L.pv)
 told : ad ρ "told" = some (.ins 3 L.kt)
 entity : ad ρ "entity" = some (.ins 1 L.ke)
 subtypes : ad ρ "subtypes" = some (.lst c.sub)
 laid : ad ρ "laid" = some (.lst c.laid)
 dot : ad ρ cz = none
structure S0 (g : G) (c : Ctx) (L : Lw) : Prop where
 root : g.reg g.root = some L.rr
 rk : L.rr.kind = "root" /\ L.rr.parent = none
 hom : ∃ v : Nat × Str, L.rr.homes = [((61 : Int), v), ((71 : Int), (c.p, ("visible" : Str)))]
 ard : g.reg L.ka = some L.ra
 ardk : L.ka = g.root \/ (L.ra.kind = "sub" /\ L.ra.parent = some g.root)
 regp : g.reg c.p = some L.rp
 rp : L.rp.kind = "package" /\ L.rp.parent = some L.ka /\ L.rp.level = L.ra.level /\ L.rp.part = "visible" /\ L.rp.es = [(("t" : Str), L.ke)] /\ L.rp.ord = [L.ke]
 nep : g.root ≠ c.p
 nea : L.ka ≠ c.p
 num : L.rr.number < L.rp.number /\ L.ra.number < L.rp.number
 sc : g.ins 5 L.ksc = some (ScF L.sc)
 ty : Ty g L.kt 71 .none
 ent : ∃ re, g.ent L.ke = some re /\ re.kind = "type" /\ re.key = none /\ re.name = "t"
 st0 : ∃ k', g.ins 4 c.s0 = some (StF k' c.bnd)
 cok : COk c.bnd
 p0 : P1 g c.bnd c.s0 71
 p1 : P1 g c.bnd c.s1 61
 pen : ∃ i, i <= 10 /\ g.lst c.pen = some (bV c.ns i)
 sub : g.lst c.sub = some [.ins 4 c.s0, .ins 4 c.s1]
 laid : g.lst c.laid = some []
 used : g.used <= 100
 ns : c.ns.length <= 60
noncomputable def gE : G := ⟨fun _ => none, fun _ => none, fun _ _ => none, fun _ => none, fun _ => none, 0, 1⟩
theorem mW : Rep gE H0 := by
 have no : ∀ {α : Type} {x : α}, (none : Option α) = some x -> False := fun h => by exact nos h
 refine ⟨⟨fun _ => none, fun _ => ⟨0, 0, 0, 0, 0, 0, 0, [], []⟩, 0⟩, ?_⟩
 exact ⟨fun _ _ h => (no h).elim, fun _ _ _ h => (no h).elim, fun _ _ h => (no h).elim, fun _ _ h => (no h).elim, fun _ _ h => (no h).elim, fun _ _ h => (no h).elim, by show 1 <= 1000; decide, Nat.zero_le _⟩
theorem wd {xs : List MV} {j : Nat} (hj : j <= 1000) (hl : xs.length <= 1000) (q : Q (.fz (xs.take j)) H) : W (lP (.fz xs) .none (.int j)) H Q := by
 exact ⟨_, _, if_pos (Bool.and_eq_true_iff.mpr ⟨rfl, Bool.and_eq_true_iff.mpr ⟨decide_eq_true (n0 _), decide_eq_true (leA hl rfl)⟩⟩), q⟩
inductive OA (kpen kn ksc k0 : Nat) (ns : List Int) (tr : Tr) (sc : Scr) (rr : Rg) : MV -> MH -> Prop
 | mk (ka : Nat) (ra : Rg) (g' : G) (H' : MH) (R : Rep g' H') (t : g'.root = k0) (u : g'.used <= 8) (r : g'.reg k0 = some rr) (a : g'.reg ka = some ra) (ak : ka = k0 \/ (ra.kind = "sub" /\ ra.parent = some k0)) (s : sel "p" ra.es = []) (l : g'.lst kpen = some (bV ns 1)) (n : g'.ins 3 kn = some (TF (tr.wNum 61))) (c : g'.ins 5 ksc = some (ScF sc)) : OA kpen kn ksc k0 ns tr sc rr (.ins 2 ka) H'
inductive OB (g : G) : MV -> MH -> Prop
 | mk (kt ko : Nat) (r : Tr) (H' : MH) (f1 : g.ins 3 kt = none) (f2 : g.dct ko = none) (f3 : r.number = 0) (f4 : r.parent = .none) (f5 : r.tagged = false) (f6 : r.operations = .dct ko) (B : Bld 3 kt (TF r) (g.setD ko (.s [])) H') : OB g (.ins 3 kt) H'
inductive OC (g : G) (kt : Nat) : MV -> MH -> Prop
 | mk (ks : Nat) (bnd : MV) (H' : MH) (c : COk bnd) (f : g.ins 4 ks = none) (R : Rep (g.setI 4 ks (StF kt bnd)) H') : OC g kt (.ins 4 ks) H'
structure LB (g : G) (k0 kpen kn u : Nat) (ns : List Int) (tr : Tr) (rr : Rg) : Prop where
 n : g.ins 3 kn = some (TF (tr.wNum 61))
 reg : g.reg k0 = some rr
 no : ∀ k, k ≠ k0 -> g.reg k = none
 l : g.lst kpen = some (bV ns 0)
 t : g.root = k0
 u : g.used = u
structure LA (g : G) (i k0 kpen kp ka ksc kn : Nat) (ns : List Int) (tr : Tr) (sc : Scr) (rp ra rr : Rg) : Prop where
 n : g.ins 3 kn = some (TF (tr.wNum 61))
 c : g.ins 5 ksc = some (ScF sc)
 l : g.lst kpen = some (bV ns i)
 p : g.reg kp = some rp
 a : g.reg ka = some ra
 r : g.reg k0 = some rr
 t : g.root = k0
 u : g.used <= 13
theorem LB.setI {k0 kpen kn u c : Nat} {ns : List Int} {tr : Tr} {rr : Rg} {fs : aY} (A : LB g k0 kpen kn u ns tr rr) (f : g.ins c k = none) : LB (g.setI c k fs) k0 kpen kn u ns tr rr := ⟨aN f _ _ _ A.n, A.reg, A.no, A.l, A.t, A.u⟩
theorem LA.setI {i k0 kpen kp ka ksc kn c : Nat} {ns : List Int} {tr : Tr} {sc : Scr} {rp ra rr : Rg} {fs : aY} (A : LA g i k0 kpen kp ka ksc kn ns tr sc rp ra rr) (f : g.ins c k = none) : LA (g.setI c k fs) i k0 kpen kp ka ksc kn ns tr sc rp ra rr := ⟨aN f _ _ _ A.n, aN f _ _ _ A.c, A.l, A.p, A.a, A.r, A.t, A.u⟩
structure LT (g : G) (k0 kpen kp ka ke : Nat) (ns : List Int) (lv : Int) (re : Er) (rp rr : Rg) (i : Nat -> Nat -> Option aY) (d : Nat -> Option MD) (numr : Int) : Prop where
 p : g.reg kp = some rp
 r : g.reg k0 = some rr
 a : ∃ ra2, g.reg ka = some ra2 /\ (ka = k0 \/ (ra2.kind = "sub" /\ ra2.parent = some k0)) /\ ra2.level = lv /\ ra2.number < numr
 e : g.ent ke = some re
 i : g.ins = i
 d : g.dct = d
 l : g.lst kpen = some (bV ns 2)
 t : g.root = k0
 u : g.used <= 18
theorem vT (ns : List Int) (hns : ns.length <= 63) (q : ∀ g H ρ c L, Rep g H -> S0 g c L -> jV ρ c L -> W (wI d ρ) H (q7 Q)) : W (fn (d + 9) "law" [.fz (ns.map .int)]) H0 Q := by
 rw [uK]
 repeat trivial
 refine wd (j := 60) (by decide) (by rw [List.length_map]; exact leA (by assumption) rfl) ?_
 rw [<- List.map_take]
 have nl : (ns.take 60).length <= 60 := by rw [List.length_take]; omega
 generalize ns.take 60 = ns at nl
 repeat trivial
 refine kS mW fun kpen H1 _ _ R1 => ?_
 have R1 : Rep (gE.setL kpen (bV ns 0)) H1 := R1
 repeat trivial
 refine lZ R1 rfl (Nat.le_refl _) fun k0 H2 R2 => ?_
 have x1 : (G.setR { gE.setL kpen (bV ns 0) with root := k0 } k0 (au "root" .none none 1 0)).reg k0 = some (au "root" .none none 1 0) /\ (∀ k, k ≠ k0 -> (G.setR { gE.setL kpen (bV ns 0) with root := k0 } k0 (au "root" .none none 1 0)).reg k = none) /\ (G.setR { gE.setL kpen (bV ns 0) with root := k0 } k0 (au "root" .none none 1 0)).lst kpen = some (bV ns 0) /\ (G.setR { gE.setL kpen (bV ns 0) with root := k0 } k0 (au "root" .none none 1 0)).root = k0 /\ (G.setR { gE.setL kpen (bV ns 0) with root := k0 } k0 (au "root" .none none 1 0)).used = 1 := ⟨ah, fun k hk => af hk, ah, rfl, rfl⟩
 generalize G.setR { gE.setL kpen (bV ns 0) with root := k0 } k0 (au "root" .none none 1 0) = g2 at R2 x1
 obtain ⟨x1, x2, x3, x4, x5⟩ := x1
 repeat trivial
 refine em R2 fun kn ko H3 tr f1 f2 f3 f4 f5 f6 B3 => ?_
 repeat trivial
 refine cV B3 fun H4 B4 => ?_
 have R4 := B4.addI (by decide) (by decide) (oX _)
 repeat trivial
 refine hY R4 fun ksn H5 fk R5 => ?_
 have n5 : LB (((g2.setD ko (.s [])).setI 3 kn (TF (tr.wNum 61))).setI 4 ksn (StF kn (.tup [.str "range", .int 1, .int 4]))) k0 kpen kn 1 ns tr (au "root" .none none 1 0) := LB.setI ⟨aO, x1, x2, x3, x4, x5⟩ fk
 have s5 : (((g2.setD ko (.s [])).setI 3 kn (TF (tr.wNum 61))).setI 4 ksn (StF kn (.tup [.str "range", .int 1, .int 4]))).ins 4 ksn = some (StF kn (.tup [.str "range", .int 1, .int 4])) := aO
 generalize ((g2.setD ko (.s [])).setI 3 kn (TF (tr.wNum 61))).setI 4 ksn (StF kn (.tup [.str "range", .int 1, .int 4])) = g5 at R5 n5 s5
 obtain ⟨n5, r5, r5', l5, y4, y5⟩ := n5
 clear x1 x2 x3 x4 x5 R4 B4 B3 R1 R2 f1 f2 fk
 repeat trivial
 refine oy (tr := (tr.wNum 61)) (rr := au "root" .none none 1 0) (by decide +kernel) R5 r5 (by rw [y4]; exact r5) s5 n5 (Fr.here r5 (.inl rfl)) (by decide) (by exact aK _ 0 0 0 .x (.n 1) (.a .x (.n 20)) (.n 1000) rfl (Nat.le_of_eq y5)) rfl rfl fun H6 en num6 u6 rr6 e6 _ q6 R6 => ?_
 have q6 : rr6 = aj (au "root" .none none 1 0) "n" en := by
  rw [y4] at q6
  have : (g5.setR k0 (aj (au "root" .none none 1 0) "n" en)).reg k0 = some (aj (au "root" .none none 1 0) "n" en) := ah
  rw [this] at q6; obtain rfl := Option.some.inj q6; rfl
 subst q6
 have R6 : Rep (g5.tell en k0 (aF (dY "n" ksn) k0 (au "root" .none none 1 0) num6 u6) (aj (au "root" .none none 1 0) "n" en) ((aj (au "root" .none none 1 0) "n" en).wHom 61 (k0, (au "root" .none none 1 0).part))) H6 := R6
 have z1 : LB (g5.tell en k0 (aF (dY "n" ksn) k0 (au "root" .none none 1 0) num6 u6) (aj (au "root" .none none 1 0) "n" en) ((aj (au "root" .none none 1 0) "n" en).wHom 61 (k0, (au "root" .none none 1 0).part))) k0 kpen kn 6 ns tr ((aj (au "root" .none none 1 0) "n" en).wHom 61 (k0, (au "root" .none none 1 0).part)) := ⟨n5, G.tell_root y4, fun k hk => (G.tell_ne y4 hk hk).trans (r5' k hk), l5, y4, congrArg (· + 5) y5⟩
 generalize (g5.tell en k0 (aF (dY "n" ksn) k0 (au "root" .none none 1 0) num6 u6) (aj (au "root" .none none 1 0) "n" en) ((aj (au "root" .none none 1 0) "n" en).wHom 61 (k0, (au "root" .none none 1 0).part))) = g6 at R6 z1
 clear l5 n5 s5 r5 r5' R5 y4 y5 e6
 obtain ⟨rr, z1, rr1, rr2, rr3, rr4, rr5, rr6⟩ : ∃ rr : Rg, LB g6 k0 kpen kn 6 ns tr rr /\ rr.kind = "root" /\ rr.parent = none /\ rr.number = 1 /\ rr.level = 0 /\ (∃ v : Nat × Str, rr.homes = [((61 : Int), v)]) /\ sel "p" rr.es = [] := ⟨_, z1, rfl, rfl, rfl, rfl, ⟨_, rfl⟩, by kernel_rfl⟩
 repeat trivial
 refine qU R6 fun kl H7 R7 => ?_
 repeat trivial
 refine jN R7 fun kw H8 fw R8 => ?_
 repeat trivial
 refine ug (kp := k0) (c := .none) R8 fun ksc H9 sc hsc R9 fsc => ?_
 have n9 : LB ((g6.setI 4 kw (StF kn .none)).setI 5 ksc (ScF sc)) k0 kpen kn 6 ns tr rr := (z1.setI fw).setI fsc
 have c9 : ((g6.setI 4 kw (StF kn .none)).setI 5 ksc (ScF sc)).ins 5 ksc = some (ScF sc) := aO
 generalize (g6.setI 4 kw (StF kn .none)).setI 5 ksc (ScF sc) = g9 at R9 n9 c9
 obtain ⟨n9, h9, o9, l9, t9, u9⟩ := n9
 clear z1 R6 R7 R8 fw fsc
 refine bZ (bp ?_)
 refine dU (aB (aI (Q := OA kpen kn ksc k0 ns tr sc rr) ?_ ?_))
 ·repeat trivial
  refine c8 (m := 2) R9 l9 (by exact leA (by assumption) rfl) (by decide) (by decide) (by decide) fun H10 j hj R10 => ?_
  repeat trivial
  refine dW (fun _ => ?_) fun _ => ?_
  ·repeat trivial
   refine gJ (kind := "sub") (rp := rr) (rr := rr) (by decide +kernel) R10 h9 (by show g9.reg g9.root = _; rw [t9]; exact h9) (by show g9.used + 2 <= 1000; exact aK _ 0 0 0 .x (.n 6) (.a .x (.n 2)) (.n 1000) rfl (Nat.le_of_eq u9)) fun ka H11 num f1 f2 R11 => ?_
   repeat trivial
   have ne : ka ≠ k0 := fun z => by rw [z] at f1; rw [show g9.reg k0 = none from f1] at h9; exact nos h9
   exact .mk ka _ _ _ R11 t9 (by show g9.used + 1 <= 8; rw [u9]; decide) ((af ne.symm).trans h9) ah (.inr ⟨rfl, rfl⟩) rfl ah n9 c9
  ·repeat trivial
   exact .mk k0 rr _ _ R10 t9 (by show g9.used <= 8; rw [u9]; decide) h9 h9 (.inl rfl) rr6 ah n9 c9
 intro v H12 h
 obtain ⟨ka, ra, g12, H12, R12, t12, u12, h12, a12, ak12, s12, l12, n12, c12⟩ := h
 clear n9 c9 h9 o9 l9 t9 u9 R9
 repeat trivial
 have Fa : ∃ n, Fr g12 ka n /\ n < 19 := by
  rcases ak12 with rfl | ⟨z, _⟩
  ·exact ⟨0, .here h12 (.inl rr1), by decide⟩
  ·exact ⟨0, .here a12 (.inr z), by decide⟩
 obtain ⟨nf, Fa, nfl⟩ := Fa
 refine iW (rr := rr) (by decide +kernel) R12 a12 (by rw [t12]; exact h12) Fa nfl (by exact rK (by assumption) rfl) s12 fun H13 ep nump up kp numr e13 _ k13 nm13 R13 => ?_
 have nkp : kp ≠ ka := fun z => by rw [z, a12] at k13; cases k13
 have nk0 : kp ≠ k0 := fun z => by rw [z, h12] at k13; cases k13
 have R13 : Rep (g12.pack ep ka kp (wC "p" ka ra nump up kp) (aj ra "p" ep) (au "package" (.ins 1 ep) (some ka) numr ra.level)) H13 := R13
 have x1 : ∃ rr', LA (g12.pack ep ka kp (wC "p" ka ra nump up kp) (aj ra "p" ep) (au "package" (.ins 1 ep) (some ka) numr ra.level)) 1 k0 kpen kp ka ksc kn ns tr sc (au "package" (.ins 1 ep) (some ka) numr ra.level) (aj ra "p" ep) rr' /\ rr'.kind = "root" /\ rr'.parent = none /\ rr'.number < numr /\ (∃ v : Nat × Str, rr'.homes = [((61 : Int), v)]) := by
  have u13 : g12.used + 5 <= 13 := Nat.add_le_add_right u12 5
  by_cases z : ka = k0
  ·subst z
   rw [h12] at a12
   obtain rfl := Option.some.inj a12
   exact ⟨_, ⟨n12, c12, l12, ah, (af nkp.symm).trans ah, (af nkp.symm).trans ah, t12, u13⟩, rr1, rr2, (nm13 ka rr h12 : rr.number < numr), rr5⟩
  ·exact ⟨rr, ⟨n12, c12, l12, ah, (af nkp.symm).trans ah, (af nk0.symm).trans ((af (Ne.symm z)).trans h12), t12, u13⟩, rr1, rr2, nm13 _ _ h12, rr5⟩
 have x4 : (aj ra "p" ep).number < numr := (nm13 _ _ a12 : ra.number < numr)
 have x5 : ka = k0 \/ ((aj ra "p" ep).kind = "sub" /\ (aj ra "p" ep).parent = some k0) := ak12
 generalize (g12.pack ep ka kp (wC "p" ka ra nump up kp) (aj ra "p" ep) (au "package" (.ins 1 ep) (some ka) numr ra.level)) = g13 at R13 x1
 obtain ⟨rr', x1, q1, q2, q3, q4⟩ := x1
 have ral : (aj ra "p" ep).level = ra.level := rfl
 generalize aj ra "p" ep = ra' at x1 x4 x5 ral
 have rp1 : (au "package" (.ins 1 ep) (some ka) numr ra.level).kind = "package" /\ (au "package" (.ins 1 ep) (some ka) numr ra.level).parent = some ka /\ (au "package" (.ins 1 ep) (some ka) numr ra.level).level = ra'.level /\ (au "package" (.ins 1 ep) (some ka) numr ra.level).part = "visible" /\ (au "package" (.ins 1 ep) (some ka) numr ra.level).es = [] /\ (au "package" (.ins 1 ep) (some ka) numr ra.level).ord = [] /\ (au "package" (.ins 1 ep) (some ka) numr ra.level).number = numr := ⟨rfl, rfl, ral.symm, by kernel_rfl, rfl, rfl, rfl⟩
 generalize au "package" (.ins 1 ep) (some ka) numr ra.level = rp at x1 rp1
 obtain ⟨y1, y2, y3, y4, y5, y6, y7⟩ := rp1
 clear n12 c12 h12 a12 ak12 s12 l12 t12 u12 Fa nfl R12 e13 k13 nm13 rr1 rr2 rr3 rr4 rr5 rr6 ral
 repeat trivial
 refine c8 (m := 2) R13 x1.l (by exact leA (by assumption) rfl) (by decide) (by decide) (by decide) fun H14 j14 hj14 R14 => ?_
 have A14 : LA (g13.setL kpen (bV ns (1 + 1))) 2 k0 kpen kp ka ksc kn ns tr sc rp ra' rr' := ⟨x1.n, x1.c, ah, x1.p, x1.a, x1.r, x1.t, x1.u⟩
 generalize g13.setL kpen (bV ns (1 + 1)) = g14 at R14 A14
 clear x1 R13
 refine aB (wa ?_)
 generalize decide (((j14 : Nat) : Int) = 1) = pv
 refine bZ (bp ?_)
 refine dU (aB (aI (Q := OB g14) ?_ ?_))
 ·cases pv
  ·repeat trivial
   refine em R14 fun kt ko H' r f1 f2 f3 f4 f5 f6 B => ?_
   repeat trivial
   exact .mk kt ko r _ f1 f2 f3 f4 f5 f6 B
  ·repeat trivial
   refine oW R14 fun kt ko H' r f1 f2 f3 f4 f5 f6 B => ?_
   repeat trivial
   exact .mk kt ko r _ f1 f2 f3 f4 f5 f6 B
 intro v H15 h
 obtain ⟨kt, ko, r, H15, f1, f2, f3, f4, f5, f6, B15⟩ := h
 repeat trivial
 refine cV B15 fun H16 B16 => ?_
 have R16 := B16.addI (by decide) (by decide) (oX _)
 have A16 : LA ((g14.setD ko (.s [])).setI 3 kt (TF (r.wNum 71))) 2 k0 kpen kp ka ksc kn ns tr sc rp ra' rr' := LA.setI (g := g14.setD ko (.s [])) ⟨A14.n, A14.c, A14.l, A14.p, A14.a, A14.r, A14.t, A14.u⟩ f1
 have t16 : ((g14.setD ko (.s [])).setI 3 kt (TF (r.wNum 71))).ins 3 kt = some (TF (r.wNum 71)) := aO
 have ty16 : Ty ((g14.setD ko (.s [])).setI 3 kt (TF (r.wNum 71))) kt 71 .none := ⟨_, ko, t16, rfl, f4, f5, f6, ah⟩
 generalize (g14.setD ko (.s [])).setI 3 kt (TF (r.wNum 71)) = g16 at R16 A16 t16 ty16
 clear B15 B16 R14 A14 f1 f2
 repeat (first | with_reducible refine bZ ?_ | with_reducible refine bp ?_)
 refine dU ?_
 refine qO (v := .ins 2 kp) rfl ?_
 refine aB (aI (Q := OC g16 kt) ?_ ?_)
 ·cases pv
  ·repeat trivial
   refine hY R16 fun ks H' f R' => ?_
   repeat trivial
   exact .mk ks _ _ (.inr ⟨0, 5, rfl⟩) f R'
  ·repeat trivial
   refine jN R16 fun ks H' f R' => ?_
   repeat trivial
   exact .mk ks _ _ (.inl rfl) f R'
 intro v H17 h
 obtain ⟨ks, bnd, H17, cok, fks, R17⟩ := h
 have t17 := aN (fs := StF kt bnd) fks _ _ _ t16
 have ty17 : Ty (g16.setI 4 ks (StF kt bnd)) kt 71 .none := by
  obtain ⟨r1, ko1, v1, v2, v3, v4, v5, v6⟩ := ty16
  exact ⟨r1, ko1, aN fks _ _ _ v1, v2, v3, v4, v5, v6⟩
 have s17 : (g16.setI 4 ks (StF kt bnd)).ins 4 ks = some (StF kt bnd) := aO
 have A17 := A16.setI (fs := StF kt bnd) fks
 generalize g16.setI 4 ks (StF kt bnd) = g17 at R17 A17 t17 ty17 s17
 obtain ⟨n17, c17, l17, p17, a17, r17, o17, u17⟩ := A17
 clear fks R16 A16 t16 ty16
 repeat trivial
 have Fp : ∃ n, Fr g17 kp n /\ n < 19 := by
  rcases x5 with rfl | ⟨z, _⟩
  ·exact ⟨1, .up p17 (.inl y1) y2 (.here r17 (.inl q1)), by decide⟩
  ·exact ⟨1, .up p17 (.inl y1) y2 (.here a17 (.inr z)), by decide⟩
 obtain ⟨nf, Fp, nfl⟩ := Fp
 obtain ⟨v61, q4⟩ := q4
 refine oy (tr := (r.wNum 71)) (rr := rr') (by decide +kernel) R17 p17 (by rw [o17]; exact r17) s17 t17 Fp nfl (by exact rK (by assumption) rfl) (by rw [y5]; rfl) (by rw [q4]; rfl) fun H18 ke num u rr2 e18 _ k18 R18 => ?_
 have k18 : rr2 = rr' := by
  rw [o17] at k18
  have : (g17.setR kp (aj rp "t" ke)).reg k0 = g17.reg k0 := af nk0.symm
  rw [this, r17] at k18
  obtain rfl := Option.some.inj k18; rfl
 subst k18
 have R18 : Rep (g17.tell ke kp (aF (dY "t" ks) kp rp num u) (aj rp "t" ke) (rr2.wHom 71 (kp, rp.part))) H18 := R18
 have x1 : LT (g17.tell ke kp (aF (dY "t" ks) kp rp num u) (aj rp "t" ke) (rr2.wHom 71 (kp, rp.part))) k0 kpen kp ka ke ns ra'.level (aF (dY "t" ks) kp rp num u) (aj rp "t" ke) (rr2.wHom 71 (kp, rp.part)) g17.ins g17.dct numr := by
  refine ⟨G.tell_k o17 nk0, G.tell_root o17, ?_, ah, rfl, rfl, l17, o17, Nat.add_le_add_right u17 5⟩
  by_cases z : ka = k0
  ·subst z
   rw [r17] at a17
   obtain rfl := Option.some.inj a17
   exact ⟨_, G.tell_root o17, .inl rfl, rfl, q3⟩
  ·refine ⟨ra', (G.tell_ne o17 z nkp.symm).trans a17, ?_, rfl, x4⟩
   rcases x5 with w | w
   ·exact absurd w z
   ·exact .inr w
 generalize (g17.tell ke kp (aF (dY "t" ks) kp rp num u) (aj rp "t" ke) (rr2.wHom 71 (kp, rp.part))) = g18 at R18 x1
 obtain ⟨x1, x2, x3, x6, x7, x11, l18, x9, x10⟩ := x1
 obtain ⟨ra2, x3, x3a, x3b, x3c⟩ := x3
 have n18 : g18.ins 3 kn = some (TF (tr.wNum 61)) := by rw [x7]; exact n17
 have c18 : g18.ins 5 ksc = some (ScF sc) := by rw [x7]; exact c17
 have t18 : g18.ins 3 kt = some (TF (r.wNum 71)) := by rw [x7]; exact t17
 have s18 : g18.ins 4 ks = some (StF kt bnd) := by rw [x7]; exact s17
 have ty18 : Ty g18 kt 71 .none := by
  obtain ⟨r1, ko1, v1, v2, v3, v4, v5, v6⟩ := ty17
  exact ⟨r1, ko1, by rw [x7]; exact v1, v2, v3, v4, v5, by rw [x11]; exact v6⟩
 clear x7 x11 n17 c17 t17 s17 ty17 l17 p17 a17 r17 o17 u17 R17 e18
 repeat trivial
 refine hY R18 fun ks1 H19 f19 R19 => ?_
 repeat trivial
 rw [show (aF (dY "t" ks) kp rp num u).subtype = .ins 4 ks from rfl]
 refine kS R19 fun ksub H20 f20 _ R20 => ?_
 repeat trivial
 refine kS R20 fun klaid H21 f21 _ R21 => ?_
 repeat trivial
 refine lY ?_
 repeat trivial
 have gr := aN (fs := StF kn (.tup [.str "range", .int 1, .int 4])) f19
 have nsl : ksub ≠ kpen := fun z => by rw [z, show (g18.setI 4 ks1 (StF kn (.tup [.str "range", .int 1, .int 4]))).lst kpen = some (bV ns 2) from l18] at f20; cases f20
 have f21a : klaid ≠ ksub := fun z => by rw [z, show ((g18.setI 4 ks1 (StF kn (.tup [.str "range", .int 1, .int 4]))).setL ksub [.ins 4 ks, .ins 4 ks1]).lst ksub = some [.ins 4 ks, .ins 4 ks1] from ah] at f21; cases f21
 have l20 : ((g18.setI 4 ks1 (StF kn (.tup [.str "range", .int 1, .int 4]))).setL ksub [.ins 4 ks, .ins 4 ks1]).lst kpen = some (bV ns 2) := (af nsl.symm).trans l18
 have f21b : klaid ≠ kpen := fun z => by rw [z, l20] at f21; cases f21
 refine q _ H21 _ ⟨kpen, ksub, klaid, kp, ks, ks1, bnd, ns⟩ ⟨ka, ksc, kt, ke, pv, ra2, aj rp "t" ke, (rr2.wHom 71 (kp, rp.part)), sc⟩ R21 ?_ ⟨rfl, rfl, rfl, rfl, rfl, rfl, rfl, rfl, rfl, rfl⟩
 refine ⟨?_, ⟨q1, q2⟩, ⟨v61, ?_⟩, x3, ?_, x1, ⟨y1, y2, ?_, y4, ?_, ?_⟩, ?_, nkp.symm, ⟨?_, ?_⟩, gr _ _ _ c18, ?_, ⟨_, x6, rfl, rfl, rfl⟩, ⟨kt, gr _ _ _ s18⟩, cok, ?_, ?_, ⟨2, by decide, ?_⟩, ?_, ah, ?_, nl⟩
 ·show g18.reg g18.root = _
  rw [x9]; exact x2
 ·show rr2.homes ++ [((71 : Int), (kp, rp.part))] = _
  rw [q4, y4]; rfl
 ·show ka = g18.root \/ (ra2.kind = "sub" /\ ra2.parent = some g18.root)
  rw [x9]; exact x3a
 ·show rp.level = ra2.level
  rw [x3b]; exact y3
 ·show rp.es ++ [(("t" : Str), ke)] = _
  rw [y5]; rfl
 ·show rp.ord ++ [ke] = _
  rw [y6]; rfl
 ·show g18.root ≠ kp
  rw [x9]; exact nk0.symm
 ·show rr2.number < rp.number
  rw [y7]; exact q3
 ·show ra2.number < rp.number
  rw [y7]; exact x3c
 ·obtain ⟨r1, ko1, v1, v2, v3, v4, v5, v6⟩ := ty18
  exact ⟨r1, ko1, gr _ _ _ v1, v2, v3, v4, v5, v6⟩
 ·exact ⟨kt, _, bnd, gr _ _ _ s18, gr _ _ _ t18, rfl, cok, fun _ => rfl, by decide⟩
 ·exact ⟨kn, _, _, (show (g18.setI 4 ks1 (StF kn (.tup [.str "range", .int 1, .int 4]))).ins 4 ks1 = _ from aO), gr _ _ _ n18, rfl, .inr ⟨1, 4, rfl⟩, fun h => absurd rfl h, by decide⟩
 ·exact (af f21b.symm).trans l20
 ·exact (af f21a.symm).trans ah
 ·show g18.used <= 100
  exact leA (by assumption) rfl
end
section
variable {g g0 : G} {H : MH} {t : Hid} {Q : MV -> MH -> Prop} {d k : Nat}
theorem jV.turn {ρ : Rho} {c : Ctx} {L : Lw} {v : MV} (E : jV ρ c L) : jV (("turn", v) :: ρ) c L := ⟨E.pen, E.scope, E.around, E.region, E.pv, E.told, E.entity, E.subtypes, E.laid, E.dot⟩
structure pg (g0 : G) (c : Ctx) (L : Lw) : Prop where
 root : g0.reg g0.root = some L.rr
 rk : L.rr.kind = "root" /\ L.rr.parent = none
 hom : ∃ v : Nat × Str, L.rr.homes = [((61 : Int), v), ((71 : Int), (c.p, ("visible" : Str)))]
 ard : g0.reg L.ka = some L.ra
 ardk : L.ka = g0.root \/ (L.ra.kind = "sub" /\ L.ra.parent = some g0.root)
 regp : g0.reg c.p = some L.rp
 rp : L.rp.kind = "package" /\ L.rp.parent = some L.ka /\ L.rp.level = L.ra.level /\ L.rp.part = "visible" /\ L.rp.es = [(("t" : Str), L.ke)] /\ L.rp.ord = [L.ke]
 nep : g0.root ≠ c.p
 nea : L.ka ≠ c.p
 num : L.rr.number < L.rp.number /\ L.ra.number < L.rp.number
 sc : g0.ins 5 L.ksc = some (ScF L.sc)
 ty : Ty g0 L.kt 71 .none
 st0 : ∃ k', g0.ins 4 c.s0 = some (StF k' c.bnd)
 cok : COk c.bnd
 used : g0.used <= 150
 ns : c.ns.length <= 60
theorem pg.fr {c : Ctx} {L : Lw} (B : pg g0 c L) : Fr g0 c.p 1 := by
 rcases B.ardk with z | ⟨z, _⟩
 ·exact .up B.regp (.inl B.rp.1) B.rp.2.1 (.here (r := L.rr) (by rw [z]; exact B.root) (.inl B.rk.1))
 ·exact .up B.regp (.inl B.rp.1) B.rp.2.1 (.here B.ard (.inr z))
theorem pg.sel {c : Ctx} {L : Lw} (B : pg g0 c L) : ∀ x ∈ (["f", "g", "h"] : List Str), sel x L.rp.es = [] := by
 rw [B.rp.2.2.2.2.1]
 have z : ∀ x ∈ (["f", "g", "h"] : List Str), ¬ ("t" : Str) = x := by decide +kernel
 intro x hx
 unfold Mine.sel
 simp [z x hx]
noncomputable def yF (re : Er) : Prop := re.kind = "type" /\ re.key = none
inductive wt (g : G) (L : Lw) : Prop
 | mk (re) (h1 : g.ent L.ke = some re) (h2 : yF re) (h3 : (L.pv = true -> ∃ sf kf cc, re.full = .ins 4 sf /\ g.ins 4 sf = some (StF kf cc) /\ Ty g kf 71 .none)) : wt g L
theorem rQ {c : Ctx} {L : Lw} {part : Str} {rows : List Row} {i0 n : Nat} {ρ : Rho} {src : Src} {Q : Fl × Rho -> MH -> Prop} {m : Nat} (B : pg g0 c L) (R : Rep g H) (I : dX g0 g c L.rp part rows i0) (hpart : part = "visible" \/ part = "private") (hi : i0 <= 100) (hr : rows.length <= 6) (hn : n <= 4) (E : jV ρ c L)
  (hm : m = ((List.range n).map fun i => MV.int (i : Nat)).length + 1) (hs : ∀ H', src.Is H' ((List.range n).map fun i => MV.int (i : Nat)))
  (q : ∀ H' g' rows' i' ρ', Rep g' H' -> dX g0 g' c L.rp part rows' i' -> rows'.length <= rows.length + n -> i' <= i0 + 6 * n -> jV ρ' c L -> Q (.next, ρ') H') :
  W (ba src (fun x94 r95 => ag (nm r95 "pen" fun v102 => nm r95 "region" fun v103 => nm r95 "subtypes" fun v104 => nm r95 "laid" fun v105 => aa (fn (d + 8) "_law_lay" [v102, v103, v104, (.str part), v105]) fun v106 => ac (.next, (("turn", x94) :: r95 : Rho))) fun r101 => ac (.next, r101)) m 0 ρ) H Q := by
 refine gp _ (fun j ρ H' => jV ρ c L /\ ∃ g' rows' i', Rep g' H' /\ dX g0 g' c L.rp part rows' i' /\ rows'.length <= rows.length + j /\ i' <= i0 + 6 * j) hm ⟨E, g, rows, i0, R, I, Nat.le_refl _, Nat.le_refl _⟩ (fun j ρ H' p => hs H') (fun j v ρ H' hv p => ?_) fun ρ H' p => ?_
 ·obtain ⟨E, g', rows', i', R', I', l1, l2⟩ := p
  have jl : j < n := by
   have := (List.getElem?_eq_some_iff.mp hv).1
   simpa using this
  have E1 := E.pen
  have E2 := E.region
  have E3 := E.subtypes
  have E4 := E.laid
  repeat trivial
  refine xn (rr0 := L.rr) (nf := 1) R' I' hpart (by exact uu _ _ _ _ .y (.n 100) (.m 6 .z) (.m 6 (.n 4)) .x (.a .y (.m 6 .w)) (.m 6 (.a .w (.n 1))) (.m 6 .z) (.a .x (.n 10)) (.n 1000) rfl hi (Nat.mul_le_mul_left 6 hn) l2 (Nat.mul_le_mul_left 6 jl)) (by have := B.ns; exact aK _ 0 0 0 .x (.n 60) .x (.n 100) rfl this) (by exact uu _ _ _ _ .y (.n 6) .z (.n 4) .x (.a .y .w) (.a .w (.n 1)) .z .x (.n 20) rfl hr hn l1 jl) B.regp B.root B.nep B.fr (by decide) B.sel (by have := B.used; exact aK _ 0 0 0 .x (.n 150) (.a .x (.n 200)) (.n 1000) rfl this) fun H2 g2 rows2 i2 R2 I2 m1 m2 => ?_
  repeat trivial
  exact ⟨E.turn, g2, rows2, i2, R2, I2, by exact bu _ _ _ _ .w (.a .y .z) .x (.a .w (.n 1)) .x (.a .y (.a .z (.n 1))) rfl l1 m1, by exact bu _ _ _ _ .w (.a .y (.m 6 .z)) .x (.a .w (.n 6)) .x (.a .y (.m 6 (.a .z (.n 1)))) rfl l2 m2⟩
 ·obtain ⟨E, g', rows', i', R', I', l1, l2⟩ := p
  rw [List.length_map, List.length_range] at l1 l2
  exact q H' g' rows' i' ρ R' I' l1 l2 E
theorem jV.way {ρ : Rho} {c : Ctx} {L : Lw} {v : MV} (E : jV ρ c L) : jV (("way", v) :: ρ) c L := ⟨E.pen, E.scope, E.around, E.region, E.pv, E.told, E.entity, E.subtypes, E.laid, E.dot⟩
structure Chg (g g' : G) (kt : Nat) : Prop where
 ex : ∃ tr tr', g.ins 3 kt = some (TF tr) /\ g'.ins 3 kt = some (TF tr') /\ tr'.number = tr.number
 oth : ∀ c k fs, ¬ (c = 3 /\ k = kt) -> g.ins c k = some fs -> g'.ins c k = some fs
theorem P1.chg {g' : G} {kt s : Nat} {bnd : MV} {n : Int} (p : P1 g bnd s n) (C : Chg g g' kt) : P1 g' bnd s n := by
 obtain ⟨k0, r, c, a, b, e, x1, x2, x3⟩ := p
 by_cases z : k0 = kt
 ·subst z
  obtain ⟨tr, tr', c1, c2, c3⟩ := C.ex
  rw [c1] at b
  have b := congrArg (fun l => ad l "number") (Option.some.inj b)
  have b : some (MV.int tr.number) = some (MV.int r.number) := b
  injection b with b
  injection b with b
  exact ⟨k0, tr', c, C.oth _ _ _ (fun w => absurd w.1 (by decide)) a, c2, by rw [c3, b, e], x1, x2, x3⟩
 ·exact ⟨k0, r, c, C.oth _ _ _ (fun w => absurd w.1 (by decide)) a, C.oth _ _ _ (fun w => z w.2) b, e, x1, x2, x3⟩
theorem Sig.chg {g' : G} {kt : Nat} {bnd : MV} {sr : Sr} {ns : List Int} {a : Int} (S : Sig g bnd sr ns a) (C : Chg g g' kt) : Sig g' bnd sr ns a := by
 obtain ⟨⟨ps, p1, p2, p3⟩, r⟩ := S
 refine ⟨⟨ps, p1, p2.mono fun _ _ p => p.chg C, p3⟩, ?_⟩
 rcases r with r | ⟨s, r1, r2⟩
 ·exact .inl r
 ·exact .inr ⟨s, r1, r2.chg C⟩
theorem vS {c : Ctx} {L : Lw} {ρ : Rho} (R : Rep g H) (S : S0 g c L) (E : jV ρ c L) (q : ∀ g0 g H rows i ρ (way : Nat), Rep g H -> pg g0 c L -> wt g0 L -> dX g0 g c L.rp "private" rows i -> rows.length <= 6 -> way < 5 -> ad ρ "way" = some (.int way) -> jV ρ c L -> W (wG d ρ) H (q7 Q)) : W (wI d ρ) H (q7 Q) := by
 have B : pg g c L := ⟨S.root, S.rk, S.hom, S.ard, S.ardk, S.regp, S.rp, S.nep, S.nea, S.num, S.sc, S.ty, S.st0, S.cok, Nat.le_trans S.used (by decide), S.ns⟩
 obtain ⟨i, i1, i2⟩ := S.pen
 have I0 : dX g (g.setL c.pen (bV c.ns (i + 1))) c L.rp "visible" [] (i + 1) := by
  have nps : c.sub ≠ c.pen := fun z => by
   have h1 := S.sub
   rw [z, i2] at h1
   have h1 := Option.some.inj h1
   unfold bV at h1
   injection h1 with h1 _
   cases h1
  have npl : c.laid ≠ c.pen := fun z => by
   have h1 := S.laid
   rw [z, i2] at h1
   cases h1
  refine ⟨ah, (af nps).trans S.sub, (af npl).trans S.laid, S.p0.mono fun _ _ _ h => h, S.p1.mono fun _ _ _ h => h, ?_, fun _ _ => rfl, rfl, fun _ _ h => h, fun _ _ _ h => h, fun _ _ h => h, Nat.le_add_right _ _, (fun _ h => nomatch h), (fun _ h => nomatch h), fun i j x y h => by simp at h, fun i j x y _ h => by simp at h⟩
  have z : L.rp = { L.rp with part := "visible" } := by rw [<- S.rp.2.2.2.1]
  unfold lrp
  rw [List.map_nil, List.map_nil, List.append_nil, List.append_nil]
  show g.reg c.p = _
  rw [S.regp, <- z]
 unfold wI
 have E1 := E.pen
 repeat trivial
 refine c8 (m := 4) R i2 (by have := S.ns; exact leA (by assumption) rfl) (by exact leA (by assumption) rfl) (by decide) (by decide) fun H1 j hj R1 => ?_
 repeat trivial
 refine fU (by decide) (by exact leA (by assumption) rfl) ?_
 rw [show (1 : Int) + (j : Nat) = ((1 + j : Nat) : Int) from by omega]
 refine qK (by exact aK _ 0 0 0 (.a .x (.n 1)) (.n 4) (.a (.n 1) .x) (.n 1000) rfl hj) fun s hn hs => ?_
 refine rQ (part := "visible") (d := d) B R1 I0 (.inl rfl) (by exact rK (by assumption) rfl) (by simp) (n := 1 + j) (by exact aK _ 0 0 0 (.a .x (.n 1)) (.n 4) (.a (.n 1) .x) (.n 4) rfl hj) E hn hs fun H2 g2 rows2 i3 ρ2 R2 I2 m1 m2 E2 => ?_
 have E3 := E2.region
 have E4 := E2.pv
 have E5 := E2.entity
 have E6 := E2.told
 have E7 := E2.pen
 repeat trivial
 refine fS R2 I2.regp fun H3 R3 => ?_
 have R3 : Rep (g2.setR c.p (lrp L.rp "private" rows2)) H3 := R3
 have I3 : dX g (g2.setR c.p (lrp L.rp "private" rows2)) c L.rp "private" rows2 i3 :=
  ⟨I2.pen, I2.sub, I2.laid, I2.p0.mono fun _ _ _ h => h, I2.p1.mono fun _ _ _ h => h, ah, fun k hk => (af hk).trans (I2.reg k hk), I2.root, I2.ent, I2.ins, I2.dct, I2.used, fun r hr => by
   exact (I2.rok r hr).mono rfl (fun _ h => h) (fun _ _ h => h) fun _ s => s.mono fun _ _ _ _ h => h, I2.newE, I2.krs, I2.dist⟩
 generalize g2.setR c.p (lrp L.rp "private" rows2) = g3 at R3 I3
 obtain ⟨re, re1, re2, re3, re4⟩ := S.ent
 refine bZ (bp ?_)
 refine dU (aI (Q := fun x H' => x = (.next, ρ2) /\ ∃ g0' g3', Rep g3' H' /\ pg g0' c L /\ wt g0' L /\ dX g0' g3' c L.rp "private" rows2 i3) ?_ ?_)
 ·cases hpv : L.pv
  ·rw [hpv] at E4
   repeat trivial
   exact ⟨rfl, g, g3, R3, B, ⟨re, re1, ⟨re2, re3⟩, fun h => by rw [hpv] at h; cases h⟩, I3⟩
  ·rw [hpv] at E4
   repeat trivial
   refine em R3 fun kf ko H4 r f1 f2 f3 f4 f5 f6 B4 => ?_
   repeat trivial
   refine cV B4 fun H5 B5 => ?_
   have R5 := B5.addI (by decide) (by decide) (oX _)
   repeat trivial
   refine hY R5 fun sf H6 fs R6 => ?_
   have grA := aN (fs := TF (r.wNum 71)) (show (g3.setD ko (.s [])).ins 3 kf = none from f1)
   have grB := aN (fs := StF kf (.tup [.str "range", .int 0, .int 5])) fs
   have he6 : (((g3.setD ko (.s [])).setI 3 kf (TF (r.wNum 71))).setI 4 sf (StF kf (.tup [.str "range", .int 0, .int 5]))).ent L.ke = some re := I3.ent _ _ re1
   repeat trivial
   refine bz (r' := (re.wF (.ins 4 sf))) R6 he6 (by kernel_rfl) (by kernel_rfl) rfl (fun x => { x with }) fun H7 R7 => ?_
   have he7 : ((((g3.setD ko (.s [])).setI 3 kf (TF (r.wNum 71))).setI 4 sf (StF kf (.tup [.str "range", .int 0, .int 5]))).setE L.ke (re.wF (.ins 4 sf))).ent L.ke = some (re.wF (.ins 4 sf)) := ah
   have gr7 : ∀ c k fs, g3.ins c k = some fs -> ((((g3.setD ko (.s [])).setI 3 kf (TF (r.wNum 71))).setI 4 sf (StF kf (.tup [.str "range", .int 0, .int 5]))).setE L.ke (re.wF (.ins 4 sf))).ins c k = some fs := fun c k fs h => grB _ _ _ (grA _ _ _ h)
   obtain ⟨tr, kot, t1, t2, t3, t4, t5, t6⟩ := S.ty
   have ht7 := gr7 _ _ _ (I3.ins _ _ _ t1)
   have sf7 : ((((g3.setD ko (.s [])).setI 3 kf (TF (r.wNum 71))).setI 4 sf (StF kf (.tup [.str "range", .int 0, .int 5]))).setE L.ke (re.wF (.ins 4 sf))).ins 4 sf = some (StF kf (.tup [.str "range", .int 0, .int 5])) := (show (((g3.setD ko (.s [])).setI 3 kf (TF (r.wNum 71))).setI 4 sf (StF kf (.tup [.str "range", .int 0, .int 5]))).ins 4 sf = _ from aO)
   have kf7 : ((((g3.setD ko (.s [])).setI 3 kf (TF (r.wNum 71))).setI 4 sf (StF kf (.tup [.str "range", .int 0, .int 5]))).setE L.ke (re.wF (.ins 4 sf))).ins 3 kf = some (TF (r.wNum 71)) := grB _ _ _ aO
   have dk7 : ((((g3.setD ko (.s [])).setI 3 kf (TF (r.wNum 71))).setI 4 sf (StF kf (.tup [.str "range", .int 0, .int 5]))).setE L.ke (re.wF (.ins 4 sf))).dct ko = some (.s []) := ah
   have dg7 : ∀ k xs, g3.dct k = some xs -> ((((g3.setD ko (.s [])).setI 3 kf (TF (r.wNum 71))).setI 4 sf (StF kf (.tup [.str "range", .int 0, .int 5]))).setE L.ke (re.wF (.ins 4 sf))).dct k = some xs := fun k xs h => (af (fun z => by rw [z, show g3.dct ko = none from f2] at h; cases h)).trans h
   have en7 : ∀ k, k ≠ L.ke -> ((((g3.setD ko (.s [])).setI 3 kf (TF (r.wNum 71))).setI 4 sf (StF kf (.tup [.str "range", .int 0, .int 5]))).setE L.ke (re.wF (.ins 4 sf))).ent k = g3.ent k := fun k hk => af hk
   have nkf : kf ≠ L.kt := fun z => by
    have := I3.ins _ _ _ t1
    rw [<- z, show g3.ins 3 kf = none from f1] at this; cases this
   have lg7 : ((((g3.setD ko (.s [])).setI 3 kf (TF (r.wNum 71))).setI 4 sf (StF kf (.tup [.str "range", .int 0, .int 5]))).setE L.ke (re.wF (.ins 4 sf))).lst = g3.lst := rfl
   have rg7 : ((((g3.setD ko (.s [])).setI 3 kf (TF (r.wNum 71))).setI 4 sf (StF kf (.tup [.str "range", .int 0, .int 5]))).setE L.ke (re.wF (.ins 4 sf))).reg = g3.reg := rfl
   have og7 : ((((g3.setD ko (.s [])).setI 3 kf (TF (r.wNum 71))).setI 4 sf (StF kf (.tup [.str "range", .int 0, .int 5]))).setE L.ke (re.wF (.ins 4 sf))).root = g3.root := rfl
   have ug7 : ((((g3.setD ko (.s [])).setI 3 kf (TF (r.wNum 71))).setI 4 sf (StF kf (.tup [.str "range", .int 0, .int 5]))).setE L.ke (re.wF (.ins 4 sf))).used = g3.used := rfl
   generalize (((g3.setD ko (.s [])).setI 3 kf (TF (r.wNum 71))).setI 4 sf (StF kf (.tup [.str "range", .int 0, .int 5]))).setE L.ke (re.wF (.ins 4 sf)) = g7 at R7 he7 gr7 ht7 sf7 kf7 dk7 dg7 en7 lg7 rg7 og7 ug7
   clear R5 R6 grA grB he6
   repeat trivial
   refine gI (fs' := TF (tr.wDes (.ins 4 sf))) R7 ht7 (by kernel_rfl) (by kernel_rfl) (oX _) fun H8 R8 => ?_
   have ot8 : ∀ c k fs, ¬ (c = 3 /\ k = L.kt) -> g7.ins c k = some fs -> (g7.setI 3 L.kt (TF (tr.wDes (.ins 4 sf)))).ins c k = some fs := fun c k fs h h2 => by
    show (if c = 3 then upd (g7.ins 3) L.kt _ else g7.ins c) k = some fs
    by_cases z : c = 3
    ·subst z
     rw [if_pos rfl]
     exact (af fun w => h ⟨rfl, w⟩).trans h2
    ·rw [if_neg z]; exact h2
   have C8 : Chg g3 (g7.setI 3 L.kt (TF (tr.wDes (.ins 4 sf)))) L.kt := ⟨⟨tr, _, I3.ins _ _ _ t1, (aO : (g7.setI 3 L.kt (TF (tr.wDes (.ins 4 sf)))).ins 3 L.kt = some (TF (tr.wDes (.ins 4 sf)))), rfl⟩, fun c k fs h h2 => ot8 _ _ _ h (gr7 _ _ _ h2)⟩
   repeat trivial
   refine ⟨rfl, { g with ent := upd g.ent L.ke (re.wF (.ins 4 sf)), ins := (g7.setI 3 L.kt (TF (tr.wDes (.ins 4 sf)))).ins, dct := g7.dct }, g7.setI 3 L.kt (TF (tr.wDes (.ins 4 sf))), R8, ?_, ?_, ?_⟩
   ·exact ⟨B.root, B.rk, B.hom, B.ard, B.ardk, B.regp, B.rp, B.nep, B.nea, B.num, ot8 _ _ _ (fun w => absurd w.1 (by decide)) (gr7 _ _ _ (I3.ins _ _ _ B.sc)), ⟨_, kot, (aO : (g7.setI 3 L.kt (TF (tr.wDes (.ins 4 sf)))).ins 3 L.kt = some (TF (tr.wDes (.ins 4 sf)))), t2, t3, t4, t5, dg7 _ _ (I3.dct _ _ t6)⟩, by
     obtain ⟨k', h⟩ := B.st0
     exact ⟨k', ot8 _ _ _ (fun w => absurd w.1 (by decide)) (gr7 _ _ _ (I3.ins _ _ _ h))⟩, B.cok, B.used, B.ns⟩
   ·refine ⟨_, ah, ⟨re2, re3⟩, fun _ => ⟨sf, kf, _, rfl, ot8 _ _ _ (fun w => absurd w.1 (by decide)) sf7, ⟨_, ko, ot8 _ _ _ (fun w => nkf w.2) kf7, rfl, f4, f5, f6, dk7⟩⟩⟩
   ·refine ⟨(congrFun lg7 _).trans I3.pen, (congrFun lg7 _).trans I3.sub, (congrFun lg7 _).trans I3.laid, I3.p0.chg C8, I3.p1.chg C8, (congrFun rg7 _).trans I3.regp, fun k hk => (congrFun rg7 k).trans (I3.reg k hk), og7.trans I3.root, fun k r h => ?_, fun _ _ _ h => h, fun _ _ h => h, by show g7.used <= _; rw [ug7]; exact I3.used, fun r hr => ?_, fun r hr => ?_, I3.krs, I3.dist⟩
    ·rcases aS h with ⟨rfl, rfl⟩ | ⟨h1, h2⟩
     ·exact he7
     ·exact (en7 k h1).trans (I3.ent k r h2)
    ·have o := I3.rok r hr
     have ne : r.e ≠ L.ke := fun z => by
      have := I3.newE r hr
      rw [z, re1] at this; cases this
     exact o.mono (congrFun lg7 _) (fun _ h => (en7 _ ne).trans h) (fun _ _ h => ot8 _ _ _ (fun w => absurd w.1 (by decide)) (gr7 _ _ _ h)) fun _ s => s.chg C8
    ·have ne : r.e ≠ L.ke := fun z => by
      have := I3.newE r hr
      rw [z, re1] at this; cases this
     exact (af ne).trans (I3.newE r hr)
 rintro x H9 ⟨rfl, g0', g9, R9, B9, F9, I9⟩
 have r2l : rows2.length <= 4 := by
  have : ([] : List Row).length = 0 := rfl
  exact gk _ _ _ 0 (.a .y (.n 1)) (.n 4) .x (.a .z (.a (.n 1) .y)) .z (.n 0) .x (.n 4) rfl hj m1 (Nat.le_of_eq this)
 refine bp ?_
 repeat trivial
 refine c8 (m := 3) R9 I9.pen (by have := B9.ns; exact leA (by assumption) rfl) (by exact gk _ _ _ 0 .y (.n 10) (.m 6 (.a .z (.n 1))) (.m 6 (.n 4)) .x (.a (.a .y (.n 1)) (.m 6 (.a (.n 1) .z))) .x (.n 1000) rfl i1 (Nat.mul_le_mul_left 6 hj) m2) (by decide) (by decide) fun H10 j10 hj10 R10 => ?_
 repeat trivial
 refine qK (by exact ltA (by assumption) rfl) fun s hn hs => ?_
 refine rQ (part := "private") (d := d) B9 R10 (I9.draw (i3 + 1)) (.inr rfl) (by exact gk _ _ _ 0 .y (.n 10) (.m 6 (.a .z (.n 1))) (.m 6 (.n 4)) .x (.a (.a .y (.n 1)) (.m 6 (.a (.n 1) .z))) (.a .x (.n 1)) (.n 100) rfl i1 (Nat.mul_le_mul_left 6 hj) m2) (by exact aK _ 0 0 0 .x (.n 4) .x (.n 6) rfl r2l) (n := j10) (by exact aK _ 0 0 0 (.a .x (.n 1)) (.n 3) .x (.n 4) rfl hj10) E2 hn hs fun H11 g11 rows11 i11 ρ11 R11 I11 m3 m4 E11 => ?_
 repeat trivial
 have E12 := E11.pen
 repeat trivial
 refine c8 (m := 5) R11 I11.pen (by have := B9.ns; exact leA (by assumption) rfl) (by omega) (by decide) (by decide) fun H12 way hw R12 => ?_
 repeat trivial
 exact q g0' _ H12 rows11 _ _ way R12 B9 F9 (I11.draw _) (by exact gk _ _ _ 0 .y (.n 4) (.a .z (.n 1)) (.n 3) .x (.a .y .z) .x (.n 6) rfl r2l hj10 m3) hw rfl E11.way
end
section
variable {g g0 g' : G} {H : MH} {t : Hid} {Q : MV -> MH -> Prop} {d k : Nat}
theorem bt.mono {o : Option Nat} {cs : List (Nat × Rg)} (C : bt g o cs) (h : ∀ k r, g.reg k = some r -> g'.reg k = some r) : bt g' o cs := by
 induction C with
 | nil => exact .nil
 | cons a _ ih => exact .cons (h _ _ a) ih
structure yq (g g' : G) : Prop where
 reg : ∀ k r, g.reg k = some r -> g'.reg k = some r
 ent : ∀ k r, g.ent k = some r -> g'.ent k = some r
 ins : g'.ins = g.ins
 lst : g'.lst = g.lst
 dct : g'.dct = g.dct
 root : g'.root = g.root
 used : g'.used <= g.used + 10
structure o0 (g : G) (p : Nat) (rp : Rg) (near : Bool) (ups : Int) (kq : Nat) (rq : Rg) : Prop where
 reg : g.reg kq = some rq
 ch : ∃ cs, bt g (some kq) ((kq, rq) :: cs) /\ cs.length <= 5 /\ (((kq, rq) :: cs).any fun x => decide (x.2.number = rp.number)) = near
 lev : rq.level - rp.level = ups
 nroot : g.root ≠ kq
 fr : ∃ n, Fr g kq n /\ n < 19
 kind : (kq = p /\ rq = rp) \/ (kq ≠ p /\ rq.es = [] /\ rq.ord = [] /\ ((rq.kind = "block" /\ rq.part = "body") \/ (rq.kind = "package" /\ rq.part = "visible")))
structure yR (ρ : Rho) (c : Ctx) (L : Lw) (way kq : Nat) : Prop where
 e : jV ρ c L
 way : ad ρ "way" = some (.int way)
 place : ad ρ "place" = some (.ins 2 kq)
theorem oq {cs : List (Nat × Rg)} {n : Int} (h : ∀ x ∈ cs, x.2.number < n) : (cs.any fun x => decide (x.2.number = n)) = false := by
 rw [List.any_eq_false]
 intro x hx
 have := h x hx
 simp; omega
structure rX (g : G) (c : Ctx) (L : Lw) (rows : List Row) (rp : Rg) : Prop where
 root : g.reg g.root = some L.rr
 ard : g.reg L.ka = some L.ra
 ardk : L.ka = g.root \/ (L.ra.kind = "sub" /\ L.ra.parent = some g.root)
 regp : g.reg c.p = some rp
 rpk : rp.kind = "package" /\ rp.parent = some L.ka /\ rp.level = L.ra.level /\ rp.part = "private"
 rk : L.rr.kind = "root" /\ L.rr.parent = none
 nep : g.root ≠ c.p
 nea : L.ka ≠ c.p
 num : L.rr.number < rp.number /\ L.ra.number < rp.number
theorem rX.chA {c : Ctx} {L : Lw} {rows : List Row} {rp : Rg} (A : rX g c L rows rp) : ∃ cs, bt g (some L.ka) ((L.ka, L.ra) :: cs) /\ cs.length <= 1 /\ ∀ x ∈ (L.ka, L.ra) :: cs, x.2.number < rp.number := by
 rcases A.ardk with z | ⟨_, z⟩
 ·have e : L.ra = L.rr := by
   have := A.ard
   rw [z, A.root] at this
   exact (Option.some.inj this).symm
  refine ⟨[], .cons A.ard ?_, by simp, fun x hx => ?_⟩
  ·rw [e, A.rk.2]; exact .nil
  ·rw [List.mem_singleton.mp hx]; exact A.num.2
 ·refine ⟨[(g.root, L.rr)], .cons A.ard ?_, by simp, fun x hx => ?_⟩
  ·rw [z]
   refine .cons A.root ?_
   rw [A.rk.2]; exact .nil
  ·rcases List.mem_cons.mp hx with w | w
   ·rw [w]; exact A.num.2
   ·rw [List.mem_singleton.mp w]; exact A.num.1
theorem rX.frA {c : Ctx} {L : Lw} {rows : List Row} {rp : Rg} (A : rX g c L rows rp) : Fr g L.ka 0 := by
 rcases A.ardk with z | ⟨z, _⟩
 ·exact .here (r := L.rr) (by rw [z]; exact A.root) (.inl A.rk.1)
 ·exact .here A.ard (.inr z)
theorem rX.frP {c : Ctx} {L : Lw} {rows : List Row} {rp : Rg} (A : rX g c L rows rp) : Fr g c.p 1 := .up A.regp (.inl A.rpk.1) A.rpk.2.1 A.frA
theorem Fr.mono2 {n : Nat} (F : Fr g k n) (h : ∀ k r, g.reg k = some r -> g'.reg k = some r) : Fr g' k n := F.mono fun k r e => ⟨r, h k r e, rfl, rfl⟩
theorem co {r : Rg} {u : Nat} (h : g.reg k = none) : ∀ j s, g.reg j = some s -> ((g.setU u).setR k r).reg j = some s := fun j s e => (af (fun z => by rw [z, h] at e; cases e)).trans e
theorem tM {c : Ctx} {L : Lw} {rows : List Row} {rp : Rg} {ρ : Rho} {way : Nat} {k2 : Rho -> M (Fl × Rho)} {Q : Fl × Rho -> MH -> Prop} (R : Rep g H) (A : rX g c L rows rp) (hu : g.used <= 400) (E : jV ρ c L) (hw : ad ρ "way" = some (.int way)) (hw5 : way < 5)
  (q : ∀ g' H' kq rq ρ', Rep g' H' -> yq g g' -> o0 g' c.p rp (decide (way < 2)) (if way > 2 then 1 else 0) kq rq -> yR ρ' c L way kq -> W (k2 ρ') H' Q) :
  W (ag (aa (aa (nm ρ "way" fun v148 => aa (az .Gt v148 (.int 2)) fun v149 => ae v149) fun c => if c then nm ρ "around" fun v150 => aa (fn (d + 8) "open_region" [(.str "sub"), .none, v150]) fun v151 => ac v151 else nm ρ "around" fun v152 => ac v152) fun v153 => ac (.next, (("outer", v153) :: ρ : Rho))) fun r147 => ag (aa (aa (nm r147 "way" fun v170 => aa (az .Eq v170 (.int 0)) fun v171 => ae v171) fun c => if c then nm r147 "region" fun v172 => ac v172 else aa (aa (nm r147 "way" fun v173 => aa (az .Lt v173 (.int 4)) fun v174 => ae v174) fun c => if c then aa (aa (nm r147 "way" fun v175 => aa (az .Eq v175 (.int 1)) fun v176 => ae v176) fun c => if c then nm r147 "region" fun v177 => ac v177 else nm r147 "outer" fun v178 => ac v178) fun v179 => aa (fn (d + 8) "open_region" [(.str "block"), .none, v179]) fun v180 => ac v180 else nm r147 "outer" fun v181 => aa (fn (d + 8) "_law_package" [(.str "q"), v181]) fun v182 => ac v182) fun v183 => ac v183) fun v184 => ac (.next, (("place", v184) :: r147 : Rho))) k2) H Q := by
 have E1 := E.around
 have E2 := E.region
 obtain ⟨csA, cA, lA, nA⟩ := A.chA
 have chP : bt g (some c.p) ((c.p, rp) :: (L.ka, L.ra) :: csA) := .cons A.regp (by rw [A.rpk.2.1]; exact cA)
 have ext0 : yq g g := ⟨fun _ _ h => h, fun _ _ h => h, rfl, rfl, rfl, rfl, Nat.le_add_right _ _⟩
 have sb : aq "block" = 0 := by decide +kernel
 have ss : aq "sub" = 1 := by decide +kernel
 have hway : way = 0 \/ way = 1 \/ way = 2 \/ way = 3 \/ way = 4 := by omega
 rcases hway with rfl | rfl | rfl | rfl | rfl
 ·repeat trivial
  exact q g H c.p rp _ R ext0 ⟨A.regp, ⟨_, chP, by simp; exact leA (by assumption) rfl, by simp⟩, by simp, A.nep, ⟨1, A.frP, by decide⟩, .inl ⟨rfl, rfl⟩⟩ ⟨⟨E.pen, E.scope, E.around, E.region, E.pv, E.told, E.entity, E.subtypes, E.laid, E.dot⟩, hw, rfl⟩
 ·repeat trivial
  refine gJ (kind := "block") (rr := L.rr) (by decide +kernel) R A.regp A.root (by exact rK (by assumption) rfl) fun kq H1 num f1 f2 R1 => ?_
  repeat trivial
  refine q _ H1 kq _ _ R1 ⟨co f1, fun _ _ h => h, rfl, rfl, rfl, rfl, Nat.add_le_add_left (by decide) _⟩ ⟨ah, ⟨_, .cons ah (chP.mono (co f1)), by simp; exact leA (by assumption) rfl, ?_⟩, ?_, fun z => ?_, ⟨2, .up ah (.inr rfl) rfl (A.frP.mono2 (co f1)), by decide⟩, .inr ⟨fun z => ?_, rfl, rfl, .inl ⟨rfl, by kernel_rfl⟩⟩⟩ ⟨⟨E.pen, E.scope, E.around, E.region, E.pv, E.told, E.entity, E.subtypes, E.laid, E.dot⟩, hw, rfl⟩
  ·simp
  ·show rp.level + aq "block" - rp.level = 0
   rw [sb]; omega
  ·have := A.root
   rw [show g.root = kq from z, f1] at this; cases this
  ·have := A.regp
   rw [<- z, f1] at this; cases this
 ·repeat trivial
  refine gJ (kind := "block") (rr := L.rr) (by decide +kernel) R A.ard A.root (by exact rK (by assumption) rfl) fun kq H1 num f1 f2 R1 => ?_
  repeat trivial
  refine q _ H1 kq _ _ R1 ⟨co f1, fun _ _ h => h, rfl, rfl, rfl, rfl, Nat.add_le_add_left (by decide) _⟩ ⟨ah, ⟨_, .cons ah (cA.mono (co f1)), by simp; exact leA (by assumption) rfl, ?_⟩, ?_, fun z => ?_, ⟨1, .up ah (.inr rfl) rfl (A.frA.mono2 (co f1)), by decide⟩, .inr ⟨fun z => ?_, rfl, rfl, .inl ⟨rfl, by kernel_rfl⟩⟩⟩ ⟨⟨E.pen, E.scope, E.around, E.region, E.pv, E.told, E.entity, E.subtypes, E.laid, E.dot⟩, hw, rfl⟩
  ·rw [List.any_cons, oq nA]
   have := f2 _ _ A.regp
   show (decide (num = rp.number) || false) = false
   simp; omega
  ·show L.ra.level + aq "block" - rp.level = 0
   rw [sb, A.rpk.2.2.1]; omega
  ·have := A.root
   rw [show g.root = kq from z, f1] at this; cases this
  ·have := A.regp
   rw [<- z, f1] at this; cases this
 ·repeat trivial
  refine gJ (kind := "sub") (rr := L.rr) (by decide +kernel) R A.ard A.root (by exact rK (by assumption) rfl) fun ko H1 num f1 f2 R1 => ?_
  have o1 : ((g.setU (g.used + 1)).setR ko (au "sub" .none (some L.ka) num (L.ra.level + aq "sub"))).reg ko = some (au "sub" .none (some L.ka) num (L.ra.level + aq "sub")) := ah
  have r1 := co (r := au "sub" .none (some L.ka) num (L.ra.level + aq "sub")) (u := g.used + 1) f1
  have n1 : rp.number < num := f2 _ _ A.regp
  repeat trivial
  refine gJ (kind := "block") (rr := L.rr) (by decide +kernel) R1 o1 (r1 _ _ A.root) (by show g.used + 1 + 2 <= 1000; exact aK _ 0 0 0 .x (.n 400) (.a (.a .x (.n 1)) (.n 2)) (.n 1000) rfl hu) fun kq H2 num2 f3 f4 R2 => ?_
  have r2 := co (r := au "block" .none (some ko) num2 ((au "sub" .none (some L.ka) num (L.ra.level + aq "sub")).level + aq "block")) (u := g.used + 1 + 1) f3
  repeat trivial
  refine q _ H2 kq _ _ R2 ⟨fun k r h => r2 _ _ (r1 _ _ h), fun _ _ h => h, rfl, rfl, rfl, rfl, by show g.used + 1 + 1 <= g.used + 10; exact iE _ 0 0 0 (.a (.a .x (.n 1)) (.n 1)) (.a .x (.n 10)) rfl⟩ ⟨ah, ⟨_, .cons ah (.cons (r2 _ _ o1) (cA.mono fun k r h => r2 _ _ (r1 _ _ h))), by simp; exact leA (by assumption) rfl, ?_⟩, ?_, fun z => ?_, ⟨1, .up ah (.inr rfl) rfl (.here (r2 _ _ o1) (.inr rfl)), by decide⟩, .inr ⟨fun z => ?_, rfl, rfl, .inl ⟨rfl, by kernel_rfl⟩⟩⟩ ⟨⟨E.pen, E.scope, E.around, E.region, E.pv, E.told, E.entity, E.subtypes, E.laid, E.dot⟩, hw, rfl⟩
  ·rw [List.any_cons, List.any_cons, oq nA]
   have := f4 _ _ o1
   have this : num < num2 := this
   show (decide (num2 = rp.number) || (decide (num = rp.number) || false)) = false
   simp; omega
  ·show L.ra.level + aq "sub" + aq "block" - rp.level = 1
   rw [sb, ss, A.rpk.2.2.1]; omega
  ·have := r1 _ _ A.root
   rw [show g.root = kq from z, f3] at this; cases this
  ·have := r1 _ _ A.regp
   rw [<- z, f3] at this; cases this
 ·repeat trivial
  refine gJ (kind := "sub") (rr := L.rr) (by decide +kernel) R A.ard A.root (by exact rK (by assumption) rfl) fun ko H1 num f1 f2 R1 => ?_
  have o1 : ((g.setU (g.used + 1)).setR ko (au "sub" .none (some L.ka) num (L.ra.level + aq "sub"))).reg ko = some (au "sub" .none (some L.ka) num (L.ra.level + aq "sub")) := ah
  have r1 := co (r := au "sub" .none (some L.ka) num (L.ra.level + aq "sub")) (u := g.used + 1) f1
  have n1 : rp.number < num := f2 _ _ A.regp
  repeat trivial
  refine iW (rr := L.rr) (by decide +kernel) R1 o1 (r1 _ _ A.root) (.here o1 (.inr rfl)) (by decide) (by show g.used + 1 + 20 <= 1000; exact aK _ 0 0 0 .x (.n 400) (.a (.a .x (.n 1)) (.n 20)) (.n 1000) rfl hu) rfl fun H2 e nume ue kq num2 f3 _ f5 f6 R2 => ?_
  have ko0 : ∀ k r, g.reg k = some r -> k ≠ ko /\ k ≠ kq := fun k r h => ⟨fun z => (by rw [z, f1] at h; cases h), fun z => (by have := r1 _ _ h; rw [z, f5] at this; cases this)⟩
  have r2 : ∀ k r, g.reg k = some r -> ((((((g.setU (g.used + 1)).setR ko (au "sub" .none (some L.ka) num (L.ra.level + aq "sub"))).setE e { aF (ga "q") ko (au "sub" .none (some L.ka) num (L.ra.level + aq "sub")) nume ue with region := .ins 2 kq }).setR ko (aj (au "sub" .none (some L.ka) num (L.ra.level + aq "sub")) "q" e)).setU (((g.setU (g.used + 1)).setR ko (au "sub" .none (some L.ka) num (L.ra.level + aq "sub"))).used + 5)).setR kq (au "package" (.ins 1 e) (some ko) num2 (au "sub" .none (some L.ka) num (L.ra.level + aq "sub")).level)).reg k = some r := fun k r h =>
   (af (ko0 k r h).2).trans ((af (ko0 k r h).1).trans (r1 k r h))
  have nkk : ko ≠ kq := fun z => by rw [<- z, o1] at f5; cases f5
  have o2 : ((((((g.setU (g.used + 1)).setR ko (au "sub" .none (some L.ka) num (L.ra.level + aq "sub"))).setE e { aF (ga "q") ko (au "sub" .none (some L.ka) num (L.ra.level + aq "sub")) nume ue with region := .ins 2 kq }).setR ko (aj (au "sub" .none (some L.ka) num (L.ra.level + aq "sub")) "q" e)).setU (((g.setU (g.used + 1)).setR ko (au "sub" .none (some L.ka) num (L.ra.level + aq "sub"))).used + 5)).setR kq (au "package" (.ins 1 e) (some ko) num2 (au "sub" .none (some L.ka) num (L.ra.level + aq "sub")).level)).reg ko = some (aj (au "sub" .none (some L.ka) num (L.ra.level + aq "sub")) "q" e) := (af nkk).trans ah
  have n2 : num < num2 := f6 _ _ o1
  repeat trivial
  refine q _ H2 kq _ _ R2 ⟨r2, fun k r h => af (fun z => by rw [z, show g.ent e = none from f3] at h; cases h) |>.trans h, rfl, rfl, rfl, rfl, ?_⟩ ⟨ah, ⟨_, .cons ah (.cons o2 (cA.mono r2)), by simp; exact leA (by assumption) rfl, ?_⟩, ?_, fun z => ?_, ⟨1, .up ah (.inl rfl) rfl (.here o2 (.inr rfl)), by decide⟩, .inr ⟨fun z => ?_, rfl, rfl, .inr ⟨rfl, by kernel_rfl⟩⟩⟩ ⟨⟨E.pen, E.scope, E.around, E.region, E.pv, E.told, E.entity, E.subtypes, E.laid, E.dot⟩, hw, rfl⟩
  ·show g.used + 1 + 5 <= g.used + 10
   exact iE _ 0 0 0 (.a (.a .x (.n 1)) (.n 5)) (.a .x (.n 10)) rfl
  ·rw [List.any_cons, List.any_cons, oq nA]
   show (decide (num2 = rp.number) || (decide (num = rp.number) || false)) = false
   simp; omega
  ·show L.ra.level + aq "sub" - rp.level = 1
   rw [ss, A.rpk.2.2.1]; omega
  ·have := r1 _ _ A.root
   rw [show g.root = kq from z, f5] at this; cases this
  ·have := r1 _ _ A.regp
   rw [<- z, f5] at this; cases this
end
section
variable {g g0 g' g2 : G} {H : MH} {t : Hid} {Q : MV -> MH -> Prop} {d k : Nat}
theorem bt.map {o : Option Nat} {cs : List (Nat × Rg)} (C : bt g o cs) (h : ∀ k r, g.reg k = some r -> ∃ r', g2.reg k = some r' /\ r'.parent = r.parent /\ r'.number = r.number) : ∃ cs', bt g2 o cs' /\ cs'.length = cs.length /\ ∀ n : Int, (cs'.any fun x => decide (x.2.number = n)) = (cs.any fun x => decide (x.2.number = n)) := by
 induction C with
 | nil => exact ⟨[], .nil, rfl, fun _ => rfl⟩
 | @cons k r cs a _ ih =>
  obtain ⟨r', h1, h2, h3⟩ := h k r a
  obtain ⟨cs', i1, i2, i3⟩ := ih
  exact ⟨(k, r') :: cs', .cons h1 (by rw [h2]; exact i1), by simp [i2], fun n => by rw [List.any_cons, List.any_cons, i3, h3]⟩
theorem aZ.regs {kq ksc kt kpar ke : Nat} {rq rr : Rg} {sc : Scr} {x : Str} {m : Int} (A : aZ g g2 kq ksc kt kpar ke rq rr sc x m) (hq : g.reg kq = some rq) (hr : g.reg g.root = some rr) (hne : g.root ≠ kq) : ∀ k r, g.reg k = some r -> ∃ r', g2.reg k = some r' /\ r'.parent = r.parent /\ r'.number = r.number /\ r'.kind = r.kind /\ r'.level = r.level /\ r'.part = r.part := by
 intro k r h
 by_cases z : k = kq
 ·subst z
  rw [hq] at h; cases h
  exact ⟨_, A.regq, rfl, rfl, rfl, rfl, rfl⟩
 ·by_cases z2 : k = g.root
  ·subst z2
   rw [hr] at h; cases h
   refine ⟨(rr.wHom m (kq, rq.part)), ?_, rfl, rfl, rfl, rfl, rfl⟩
   rw [<- A.root]; exact A.regr
  ·exact ⟨r, by rw [A.reg k z z2]; exact h, rfl, rfl, rfl, rfl, rfl⟩
structure q8 (g : G) (c : Ctx) (L : Lw) (rows : List Row) (rp : Rg) : Prop where
 A : rX g c L rows rp
 hom : ∃ v : Nat × Str, L.rr.homes = [((61 : Int), v), ((71 : Int), (c.p, ("visible" : Str)))]
 es : rp.es = (("t" : Str), L.ke) :: rows.map fun r => (r.nm, r.e)
 ord : rp.ord = L.ke :: rows.map (·.e)
 rok : ∀ r ∈ rows, eQ g c r
 dist : ∀ (i j : Nat) (x y : Row), i < j -> rows[i]? = some x -> rows[j]? = some y -> x.imp = false -> y.imp = false -> bO x.nm x.ns x.a y = false
 sc : g.ins 5 L.ksc = some (ScF L.sc)
 ke : ∃ re, g.ent L.ke = some re /\ yF re
 len : rows.length <= 6
 used : g.used <= 400
 laid : g.lst c.laid = some (rows.map fun r => .lst r.kr)
 sub : g.lst c.sub = some [.ins 4 c.s0, .ins 4 c.s1]
 st0 : ∃ k', g.ins 4 c.s0 = some (StF k' c.bnd)
 cok : COk c.bnd
noncomputable def bW (near : Bool) (rows : List Row) : List TR := (rows.filter (cY near 71)).map Row.tr
noncomputable def dZ (near : Bool) (e : Er) : Bool := decide (e.kind = "sub") && (!e.implicit && (bY e 71 && !(decide (e.part = "private") && !near)))
theorem mq {c : Ctx} {r : Row} {near : Bool} (o : eQ g c r) : dZ near (g.e r.e) = cY near 71 r := by
 obtain ⟨er, so, sr, e1, e2, e3, e4, e5, e6, e7, e8, e9, e10, e11, e12, e13⟩ := o.ex
 unfold dZ cY bY
 rw [G.e_of e1, e2, e10, e4, e12]
 cases h : r.imp
 ·rw [o.five h]
  have : (decide ((71 : Int) ∈ r.ns) || decide (r.a = 71)) = decide ((71 : Int) ∈ r.ns ++ [r.a]) := by
   by_cases x : (71 : Int) ∈ r.ns <;> by_cases y : r.a = 71 <;> simp [x, y, eq_comm]
  rw [show (decide (("sub" : Str) = "sub")) = true from decide_eq_true rfl]
  show (true && (!false && ((decide ((71 : Int) ∈ r.ns) || decide (r.a = 71)) && _))) = _
  rw [this]; rfl
 ·rw [show (decide (("sub" : Str) = "sub")) = true from decide_eq_true rfl]; rfl
theorem cP {re : Er} {near : Bool} (h : re.kind = "type") : dZ near re = false := by
 unfold dZ
 rw [h, show (decide (("type" : Str) = "sub")) = false by decide +kernel]; rfl
theorem jE {c : Ctx} {near : Bool} : ∀ rows : List Row, (∀ r ∈ rows, eQ g c r) -> (rows.map (·.e)).filter (fun o => dZ near (g.e o)) = (bW near rows).map (·.e) := by
 intro rows
 induction rows with
 | nil => exact fun _ => rfl
 | cons r l ih =>
  intro h
  have ih := ih fun x hx => h x (List.mem_cons_of_mem _ hx)
  have v := mq (near := near) (h r (List.mem_cons_self ..))
  unfold bW at ih ⊢
  rw [List.map_cons]
  cases q : cY near 71 r
  ·rw [List.filter_cons_of_neg (by rw [v, q]; decide), List.filter_cons_of_neg (by rw [q]; decide), ih]
  ·rw [List.filter_cons_of_pos (by rw [v, q]), List.filter_cons_of_pos q, ih]; rfl
theorem rd {x y : Int} (hx : x = 71 \/ x = 61 \/ x = -1) (hy : y = 71 \/ y = 61 \/ y = -1) (h : sw 71 72 x = sw 71 72 y) : x = y := by
 unfold sw at h
 rcases hx with rfl | rfl | rfl <;> rcases hy with rfl | rfl | rfl <;> first | rfl | (exfalso; revert h; decide)
theorem lG : ∀ {xs ys : List Int}, (∀ x ∈ xs, x = 71 \/ x = 61) -> (∀ y ∈ ys, y = 71 \/ y = 61) -> xs.map (sw 71 72) = ys.map (sw 71 72) -> xs = ys := by
 intro xs
 induction xs with
 | nil =>
  intro ys _ _ h
  cases ys with
  | nil => rfl
  | cons => cases h
 | cons x xs ih =>
  intro ys hx hy h
  cases ys with
  | nil => cases h
  | cons y ys =>
  rw [List.map_cons, List.map_cons] at h
  injection h with h1 h2
  have w : ∀ {z : Int}, (z = 71 \/ z = 61) -> (z = 71 \/ z = 61 \/ z = -1) := fun h => h.elim .inl fun h => .inr (.inl h)
  rw [rd (w (hx x (List.mem_cons_self ..))) (w (hy y (List.mem_cons_self ..))) h1, ih (fun z hz => hx z (List.mem_cons_of_mem _ hz)) (fun z hz => hy z (List.mem_cons_of_mem _ hz)) h2]
theorem ii {c : Ctx} {near : Bool} {rows : List Row} (rok : ∀ r ∈ rows, eQ g c r) (dist : ∀ (i j : Nat) (x y : Row), i < j -> rows[i]? = some x -> rows[j]? = some y -> x.imp = false -> y.imp = false -> bO x.nm x.ns x.a y = false) :
  List.Pairwise (fun x y : TR => x.nm = y.nm -> (x.ns, x.a) ≠ (y.ns, y.a)) (bW near rows) := by
 have p : List.Pairwise (fun x y : Row => x.imp = false -> y.imp = false -> bO x.nm x.ns x.a y = false) rows := by
  rw [List.pairwise_iff_getElem]
  intro i j hi hj hij
  exact dist i j _ _ hij (List.getElem?_eq_getElem hi) (List.getElem?_eq_getElem hj)
 unfold bW
 rw [List.pairwise_map]
 refine List.Pairwise.imp_of_mem ?_ (p.filter (cY near 71))
 intro x y hx hy h hn hk
 have hx := (List.mem_filter.mp hx).2
 have hy := (List.mem_filter.mp hy).2
 have ix : x.imp = false := by unfold cY at hx; cases z : x.imp <;> rw [z] at hx <;> first | rfl | cases hx
 have iy : y.imp = false := by unfold cY at hy; cases z : y.imp <;> rw [z] at hy <;> first | rfl | cases hy
 have h := h ix iy
 have hn : x.nm = y.nm := hn
 have hk : (x.ns, x.a) = (y.ns, y.a) := hk
 unfold bO at h
 rw [decide_eq_true] at h
 ·cases h
 ·exact ⟨hn.symm, (Prod.mk.inj hk).1.symm, (Prod.mk.inj hk).2.symm⟩
end
section
variable {g g0 g' g2 : G} {H : MH} {t : Hid} {Q : MV -> MH -> Prop} {d k : Nat}
theorem dH {near : Bool} {rows : List Row} {tr : TR} (h : tr ∈ bW near rows) : ∃ r ∈ rows, tr = r.tr /\ r.imp = false /\ cY near 71 r = true := by
 obtain ⟨r, hr, rfl⟩ := List.mem_map.mp h
 obtain ⟨h1, h2⟩ := List.mem_filter.mp hr
 refine ⟨r, h1, rfl, ?_, h2⟩
 unfold cY at h2
 cases z : r.imp <;> rw [z] at h2 <;> first | rfl | cases h2
theorem sJ {c : Ctx} {r : Row} (o : eQ g c r) (h : r.imp = false) : fX g c.bnd c.p false r.part r.tr := by
 obtain ⟨er, so, sr, e1, e2, e3, e4, e5, e6, e7, e8, e9, e10, e11, e12, e13⟩ := o.ex
 exact ⟨er, so, sr, e1, e2, e3, e4, e5, e6, e7, e8, e9, by rw [e10, h], e13 h, e11, e12⟩
theorem jZ {near : Bool} {r : Row} (h : cY near 71 r = true) : (72 : Int) ∈ r.ns.map (sw 71 72) \/ sw 71 72 r.a = 72 := by
 unfold cY at h
 have h := (Bool.and_eq_true_iff.mp h).2
 have h := (Bool.and_eq_true_iff.mp h).2
 have h := (Bool.and_eq_true_iff.mp h).1
 rcases List.mem_append.mp (of_decide_eq_true h) with z | z
 ·exact .inl (List.mem_map.mpr ⟨71, z, rfl⟩)
 ·have : r.a = 71 := by simpa [eq_comm] using z
  rw [this]; exact .inr rfl
theorem gG {y : Str} (hy : y ∈ (["t", "d", "e", "n", "p", "q"] : List Str)) : ∀ x ∈ (["f", "g", "h"] : List Str), x ≠ y := by
 have z : ∀ y ∈ (["t", "d", "e", "n", "p", "q"] : List Str), ∀ x ∈ (["f", "g", "h"] : List Str), x ≠ y := by decide +kernel
 exact z y hy
theorem j0 {c : Ctx} {L : Lw} {rows : List Row} {rp : Rg} (D : q8 g c L rows rp) {x : Str} {o : Nat} (hx : x ≠ "t") (h : o ∈ sel x rp.es) : ∃ r ∈ rows, r.nm = x /\ r.e = o := by
 have h := aR.mp h
 rw [D.es] at h
 rcases List.mem_cons.mp h with z | z
 ·cases z; exact absurd rfl hx
 ·obtain ⟨r, hr, e⟩ := List.mem_map.mp z
  cases e; exact ⟨r, hr, rfl, rfl⟩
theorem tZ {c : Ctx} {L : Lw} {rows : List Row} {rp rq : Rg} {near : Bool} {ups : Int} {kq kpar : Nat} (R : Rep g H) (D : q8 g c L rows rp) (P : o0 g c.p rp near ups kq rq) (tp : Ty g kpar 71 .none)
  (q : ∀ H' g2 g' B kt ke, Rep g' H' -> aZ g g2 kq L.ksc kt kpar ke rq L.rr L.sc "d" 72 -> bU g2 g' kq (aj rq "d" ke) c.bnd c.p 71 72 (bW near rows) B -> Q (.tup [.ins 3 kt, .fz (bn (B.map (·.e)))]) H') : W (fn (d + 8) "_law_derive" [.ins 5 L.ksc, .ins 2 kq, .ins 3 kpar, .str "d", .int 72]) H Q := by
 refine ay fun X hX => ?_
 obtain ⟨nf, F, hnf⟩ := P.fr
 obtain ⟨cs, C, cl, within⟩ := P.ch
 obtain ⟨v61, hom⟩ := D.hom
 obtain ⟨te, te1, te2, te3⟩ := D.ke
 have Tl : (bW near rows).length <= 6 := by
  unfold bW
  rw [List.length_map]
  exact Nat.le_trans (bf _ _) D.len
 have nmd : ∀ r ∈ rows, r.nm ≠ "d" /\ r.nm ≠ "t" := fun r hr => ⟨gG (by decide +kernel) _ (D.rok r hr).nm, gG (by decide +kernel) _ (D.rok r hr).nm⟩
 refine hX ?_
 refine kT (bnd := c.bnd) (hk := c.p) (bW near rows) (by decide +kernel) R D.sc P.reg D.A.root P.nroot tp (by decide) (by decide) (by decide) (by decide) F hnf (by have := D.used; exact bu _ _ 0 0 (.m 5 .y) (.m 5 (.n 6)) .x (.n 400) (.a (.a .x (.n 60)) (.m 5 .y)) (.n 1000) rfl (Nat.mul_le_mul_left 5 Tl) this) ?_ (by rw [hom]; rfl) (fun tr h => ?_) (fun i j x y hij hx hy hn => ?_) (fun tr h y hy => ?_) (fun g2 H2 kt ke Q R2 A2 hQ => ?_) q
 ·rcases P.kind with ⟨rfl, rfl⟩ | ⟨_, z, _⟩
  ·cases w : sel "d" rq.es with
   | nil => rfl
   | cons o l =>
    obtain ⟨r, hr, z1, _⟩ := j0 D (x := "d") (o := o) (by decide +kernel) (by rw [w]; exact List.mem_cons_self ..)
    exact absurd z1 (nmd r hr).1
  ·rw [z]; rfl
 ·obtain ⟨r, hr, rfl, im, _⟩ := dH h
  exact ⟨(nmd r hr).1, false, r.part, sJ (D.rok r hr) im⟩
 ·have pw := ii (near := near) D.rok D.dist
  rw [List.pairwise_iff_getElem] at pw
  obtain ⟨hi, rfl⟩ := List.getElem?_eq_some_iff.mp hx
  obtain ⟨hj, rfl⟩ := List.getElem?_eq_some_iff.mp hy
  intro e
  obtain ⟨r1, hr1, z1, _⟩ := dH (List.getElem_mem hi)
  obtain ⟨r2, hr2, z2, _⟩ := dH (List.getElem_mem hj)
  refine pw i j hi hj hij hn ?_
  rw [z1, z2] at e ⊢
  obtain ⟨e1, e2⟩ := Prod.mk.inj e
  have o1 := D.rok r1 hr1
  have o2 := D.rok r2 hr2
  show (r1.ns, r1.a) = (r2.ns, r2.a)
  rw [(lG o1.ns o2.ns e1), (rd o1.a o2.a e2)]
 ·obtain ⟨r, hr, rfl, im, sl⟩ := dH h
  rcases P.kind with ⟨rfl, rfl⟩ | ⟨_, z, _⟩
  ·obtain ⟨r', hr', z1, z2⟩ := j0 D (nmd r hr).2 hy
   obtain ⟨er, so, sr, e1, e2, e3, e4, _⟩ := (D.rok r' hr').ex
   rw [<- z2, G.e_of e1]
   refine ⟨_, e4, fun e => ?_⟩
   rcases jZ sl with w | w
   ·have w : (72 : Int) ∈ r'.ns := by rw [(Prod.mk.inj e).left]; exact w
    have := (D.rok r' hr').ns 72 w
    omega
   ·have w : r'.a = 72 := by rw [(Prod.mk.inj e).right]; exact w
    have := (D.rok r' hr').a
    omega
  ·rw [z] at hy; cases hy
 ·have RG := A2.regs P.reg D.A.root P.nroot
  refine ay fun X hX => ?_
  obtain ⟨cs2, C2, cl2, an2⟩ := C.map fun k r h => by
   obtain ⟨r', h1, h2, h3, _⟩ := RG k r h
   exact ⟨r', h1, h2, h3⟩
  obtain ⟨rh, rh1, _, rh3, rh4, _, _⟩ := RG _ _ D.A.regp
  have rh4 : rh.kind = "package" := rh4.trans D.A.rpk.1
  obtain ⟨tpr, tp1, tp2, _, tp4⟩ := tp.tag
  obtain ⟨fresh, t2, tt1, tt2, _⟩ := A2.te
  have ge2 : ∀ o r, g.ent o = some r -> g2.e o = g.e o := fun o r h => by rw [G.e_of (A2.ent _ _ h), G.e_of h]
  have rowE : ∀ r ∈ rows, g2.e r.e = g.e r.e := fun r hr => by
   obtain ⟨er, _, _, e1, _⟩ := (D.rok r hr).ex
   exact ge2 _ _ e1
  have ordIs : rh.ord = rp.ord \/ rh.ord = rp.ord ++ [ke] := by
   rcases P.kind with ⟨z1, z2⟩ | ⟨z1, _⟩
   ·have := A2.regq
    rw [z1, rh1] at this
    right
    rw [Option.some.inj this, z2]; rfl
   ·have := A2.reg c.p z1.symm D.A.nep.symm
    rw [rh1, D.A.regp] at this
    left
    rw [Option.some.inj this]
  have inOrd : ∀ o ∈ rh.ord, o = L.ke \/ o = ke \/ ∃ r ∈ rows, r.e = o := by
   intro o ho
   have h1 : o ∈ rp.ord \/ o = ke := by
    rcases ordIs with z | z
    ·rw [z] at ho; exact .inl ho
    ·rw [z] at ho
     rcases List.mem_append.mp ho with w | w
     ·exact .inl w
     ·exact .inr (List.mem_singleton.mp w)
   rcases h1 with w | w
   ·rw [D.ord] at w
    rcases List.mem_cons.mp w with y | y
    ·exact .inl y
    ·obtain ⟨r, hr, e⟩ := List.mem_map.mp y
     exact .inr (.inr ⟨r, hr, e⟩)
   ·exact .inr (.inl w)
  refine hX ?_
  refine rL (c := fun o => dZ near (g2.e o)) (inhB := fun _ => false) R2 A2.scp rfl A2.regq A2.regr (A2.ins _ _ _ (by decide) tp1) (kh := c.p) (prt := "visible") ?_ rh1 C2 (by rw [cl2]; simp; exact aK _ 0 0 0 .x (.n 5) (.a (.a .x (.n 1)) (.n 1)) (.n 20) rfl cl) (fun o ho _ _ him H' Q R' hQ' => ?_) (fun o ho => ?_) (fun H' kf K1 k1 k2 k3 => ?_)
  ·rw [tp2, show ((L.rr.wHom 72 (kq, rq.part)) : Rg).homes = L.rr.homes ++ [((72 : Int), (kq, rq.part))] from rfl, hom]; rfl
  ·exact vX R' A2.scp rfl A2.regq A2.regr (A2.ins _ _ _ (by decide) tp1) tp4 hQ'
  ·rw [an2, rh3, within]
   rcases inOrd o ho with z | z | ⟨r, hr, z⟩
   ·rw [z, ge2 _ _ te1, G.e_of te1, cP te2]
    exact .noSub (by rw [ge2 _ _ te1, G.e_of te1, te2]; decide +kernel)
   ·rw [z, G.e_of tt1, cP tt2]
    exact .noSub (by rw [G.e_of tt1, tt2]; decide +kernel)
   ·rw [<- z, rowE r hr]
    obtain ⟨er, so, sr, e1, e2, e3, e4, e5, e6, e7, e8, e9, e10, e11, e12, e13⟩ := (D.rok r hr).ex
    have eg2 := (rowE r hr).trans (G.e_of e1)
    rw [(G.e_of e1)]
    cases im : er.implicit
    case true =>
     have : dZ near er = false := by unfold dZ; rw [im]; cases decide (er.kind = "sub") <;> rfl
     rw [this]
     exact .implNot (by rw [eg2]; exact im) rfl
    have ov : er.overridden = false := e13 (by rw [<- e10]; exact im)
    cases mt : bY er 71
    case false =>
     have : dZ near er = false := by unfold dZ; rw [im, mt]; cases decide (er.kind = "sub") <;> rfl
     rw [this]
     exact .noMent (by rw [eg2, tp2]; exact mt)
    have pt : er.part = "visible" \/ er.part = "private" := by rw [e12]; exact (D.rok r hr).part
    have v0 : dZ near er = !(decide (er.part = "private") && !near) := by
     unfold dZ; rw [im, mt, decide_eq_true e2]; rfl
    rw [v0]
    rcases pt with pt | pt
    ·rw [pt, show decide (("visible" : Str) = "private") = false by decide +kernel]
     exact .take (by rw [eg2]; exact e2) (by rw [eg2, tp2]; exact mt) (by rw [eg2]; exact ov) (.inl (by rw [eg2]; exact im)) rh4 (.inl (by rw [eg2]; exact pt))
    ·rw [pt, decide_eq_true rfl]
     cases near
     ·exact .far (by rw [eg2]; exact im) (by rw [eg2]; exact ov) rh4 (by rw [eg2]; exact pt) rfl
     ·exact .take (by rw [eg2]; exact e2) (by rw [eg2, tp2]; exact mt) (by rw [eg2]; exact ov) (.inl (by rw [eg2]; exact im)) rh4 (.inr ⟨rfl, by rw [eg2]; exact pt⟩)
  ·refine hQ H' kf K1 k1 k2 ?_
   rw [k3]
   have fr := jE (g := g2) (near := near) (c := c) rows fun r hr => by
    have o := D.rok r hr
    exact o.mono ((A2.lst _ _ o.lst).trans o.lst.symm) (fun _ h => A2.ent _ _ h) (fun _ _ h => A2.ins _ _ _ (by decide) h) fun _ s => s.mono fun c k fs hc h => A2.ins _ _ _ (by rcases hc with rfl | rfl <;> decide) h
   have f1 : (rp.ord).filter (fun o => dZ near (g2.e o)) = (bW near rows).map (·.e) := by
    rw [D.ord, List.filter_cons_of_neg (by rw [ge2 _ _ te1, G.e_of te1, cP te2]; decide)]
    exact fr
   rcases ordIs with z | z
   ·rw [z, f1]
   ·rw [z, List.filter_append, f1, List.filter_cons_of_neg (by rw [G.e_of tt1, cP tt2]; decide)]
    simp
end
section
variable {g g0 g' g2 : G} {H : MH} {t : Hid} {Q : MV -> MH -> Prop} {d k : Nat}
theorem mu {x y : Int} (hx : x = 71 \/ x = 61 \/ x = -1) (hy : y = 71 \/ y = 61 \/ y = -1) (h : sw 72 73 (sw 71 72 x) = sw 72 73 (sw 71 72 y)) : x = y := by
 unfold sw at h
 rcases hx with rfl | rfl | rfl <;> rcases hy with rfl | rfl | rfl <;> first | rfl | (exfalso; revert h; decide)
theorem jy : ∀ {xs ys : List Int}, (∀ x ∈ xs, x = 71 \/ x = 61) -> (∀ y ∈ ys, y = 71 \/ y = 61) -> (xs.map (sw 71 72)).map (sw 72 73) = (ys.map (sw 71 72)).map (sw 72 73) -> xs = ys := by
 intro xs
 induction xs with
 | nil =>
  intro ys _ _ h
  cases ys with
  | nil => rfl
  | cons => cases h
 | cons x xs ih =>
  intro ys hx hy h
  cases ys with
  | nil => cases h
  | cons y ys =>
  rw [List.map_cons, List.map_cons, List.map_cons, List.map_cons] at h
  injection h with h1 h2
  have w : ∀ {z : Int}, (z = 71 \/ z = 61) -> (z = 71 \/ z = 61 \/ z = -1) := fun h => h.elim .inl fun h => .inr (.inl h)
  rw [mu (w (hx x (List.mem_cons_self ..))) (w (hy y (List.mem_cons_self ..))) h1, ih (fun z hz => hx z (List.mem_cons_of_mem _ hz)) (fun z hz => hy z (List.mem_cons_of_mem _ hz)) h2]
structure uA (c : Ctx) (rows : List Row) (b : TR) (r : Row) : Prop where
 row : r ∈ rows
 imp : r.imp = false
 nm : b.nm = r.nm
 ns : b.ns = r.ns.map (sw 71 72)
 a : b.a = sw 71 72 r.a
 uq : b.uq = r.uq
 ment : (72 : Int) ∈ b.ns \/ b.a = 72
theorem uA.nsm {c : Ctx} {rows : List Row} {b : TR} {r : Row} (B : uA c rows b r) (rok : ∀ r ∈ rows, eQ g c r) : (∀ x ∈ b.ns, x = 72 \/ x = 61) /\ (b.a = 72 \/ b.a = 61 \/ b.a = -1) := by
 have o := rok r B.row
 constructor
 ·intro x hx
  rw [B.ns] at hx
  obtain ⟨y, hy, rfl⟩ := List.mem_map.mp hx
  rcases o.ns y hy with rfl | rfl
  ·exact .inl rfl
  ·exact .inr rfl
 ·rw [B.a]
  rcases o.a with z | z | z <;> rw [z]
  ·exact .inl rfl
  ·exact .inr (.inl rfl)
  ·exact .inr (.inr rfl)
theorem uA.sw2 {c : Ctx} {rows : List Row} {b : TR} {r : Row} (B : uA c rows b r) : (73 : Int) ∈ b.ns.map (sw 72 73) \/ sw 72 73 b.a = 73 := by
 rcases B.ment with z | z
 ·exact .inl (List.mem_map.mpr ⟨72, z, rfl⟩)
 ·rw [z]; exact .inr rfl
theorem fJ {c : Ctx} {rows : List Row} {near : Bool} {kq : Nat} {rq : Rg} {hk : Nat} {B : List TR} {bnd : MV} (Br : bU g g' kq rq bnd hk 71 72 (bW near rows) B) : ∀ (i : Nat) (b : TR), B[i]? = some b -> ∃ r, uA c rows b r /\ (bW near rows)[i]? = some r.tr := by
 intro i b hb
 have al := Br.all
 have h : ∃ t : TR, (bW near rows)[i]? = some t /\ b = t.sw 71 72 b.e := by
  have len := al.len
  have hi := (List.getElem?_eq_some_iff.mp hb).1
  have ht : (bW near rows)[i]? = some ((bW near rows)[i]'(by exact bu _ _ _ 0 .z .y (.a .x (.n 1)) .z (.a .x (.n 1)) .y rfl (geE len) hi)) := List.getElem?_eq_getElem (by exact bu _ _ _ 0 .z .y (.a .x (.n 1)) .z (.a .x (.n 1)) .y rfl (geE len) hi)
  obtain ⟨b', h1, h2, _⟩ := al.get i _ ht
  rw [hb] at h1; cases h1
  exact ⟨_, ht, h2⟩
 obtain ⟨t, ht, e⟩ := h
 obtain ⟨r, hr, rfl, im, sl⟩ := dH (List.mem_of_getElem? ht)
 refine ⟨r, ⟨hr, im, by rw [e]; rfl, by rw [e]; rfl, by rw [e]; rfl, by rw [e]; rfl, ?_⟩, ht⟩
 have := jZ sl
 rw [e]
 exact this
end
section
variable {g g0 g' g2 : G} {H : MH} {t : Hid} {Q : MV -> MH -> Prop} {d k : Nat}
noncomputable def rq1 (rq : Rg) (ke : Nat) (B : List TR) : Rg := { aj rq "d" ke with es := (aj rq "d" ke).es ++ B.map (fun b => (b.nm, b.e)), ord := (aj rq "d" ke).ord ++ B.map (·.e) }
theorem mv {x : Int} (h : x = 71 \/ x = 61 \/ x = -1) : sw 72 71 (sw 71 72 x) = x := by
 rcases h with rfl | rfl | rfl <;> decide
theorem jz : ∀ {xs : List Int}, (∀ x ∈ xs, x = 71 \/ x = 61) -> (xs.map (sw 71 72)).map (sw 72 71) = xs := by
 intro xs
 induction xs with
 | nil => exact fun _ => rfl
 | cons x l ih =>
  intro h
  rw [List.map_cons, List.map_cons, ih fun y hy => h y (List.mem_cons_of_mem _ hy)]
  rw [mv ((h x (List.mem_cons_self ..)).elim .inl fun z => .inr (.inl z))]
noncomputable def fc (e : Er) : Bool := decide (e.kind = "sub") && bY e 72
theorem qJ {c : Ctx} {L : Lw} {rows : List Row} {rp rq : Rg} {near : Bool} {ups : Int} {kq kpar kt ke : Nat} {B : List TR} (R : Rep g' H) (D : q8 g c L rows rp) (P : o0 g c.p rp near ups kq rq) (tp : Ty g kpar 71 .none) (A : aZ g g2 kq L.ksc kt kpar ke rq L.rr L.sc "d" 72) (Br : bU g2 g' kq (aj rq "d" ke) c.bnd c.p 71 72 (bW near rows) B)
  (q : ∀ H' g3 g4 B2 kt2 ke2, Rep g4 H' -> aZ g' g3 kq L.ksc kt2 kt ke2 (rq1 rq ke B) (L.rr.wHom 72 (kq, rq.part)) (L.sc.wPl kq) "e" 73 -> bU g3 g4 kq (aj (rq1 rq ke B) "e" ke2) c.bnd c.p 72 73 B B2 -> Q (.tup [.ins 3 kt2, .fz (bn (B2.map (·.e)))]) H') : W (fn (d + 8) "_law_derive" [.ins 5 L.ksc, .ins 2 kq, .ins 3 kt, .str "e", .int 73]) H Q := by
 refine ay fun X hX => ?_
 obtain ⟨nf, F, hnf⟩ := P.fr
 obtain ⟨cs, C, cl, within⟩ := P.ch
 obtain ⟨v61, hom⟩ := D.hom
 obtain ⟨te, te1, te2, te3⟩ := D.ke
 obtain ⟨fresh, td, td1, td2, td3, td4⟩ := A.te
 have bro := fJ (c := c) Br
 have broM : ∀ b ∈ B, ∃ r, uA c rows b r /\ fX g' c.bnd c.p true rq.part b := by
  intro b hb
  obtain ⟨i, hi⟩ := List.getElem?_of_mem hb
  obtain ⟨r, h1, _⟩ := bro i b hi
  obtain ⟨_, _, _, _, h2⟩ := Br.all.mem_right b hb
  exact ⟨r, h1, h2⟩
 have Bl : B.length <= 6 := by
  rw [<- Br.all.len]
  unfold bW
  rw [List.length_map]
  exact Nat.le_trans (bf _ _) D.len
 have rootq : g2.root ≠ kq := by rw [A.root]; exact P.nroot
 have hr : g'.reg g'.root = some (L.rr.wHom 72 (kq, rq.part)) := by
  rw [Br.root]; exact (Br.reg _ rootq).trans A.regr
 have hq : g'.reg kq = some (rq1 rq ke B) := Br.regq
 have RG2 : ∀ k r, g.reg k = some r -> ∃ r', g'.reg k = some r' /\ r'.parent = r.parent /\ r'.number = r.number /\ r'.kind = r.kind /\ r'.level = r.level /\ r'.part = r.part := by
  intro k r h
  by_cases z : k = kq
  ·subst z
   rw [P.reg] at h; cases h
   exact ⟨_, hq, rfl, rfl, rfl, rfl, rfl⟩
  ·obtain ⟨r', h1, h2⟩ := (A.regs P.reg D.A.root P.nroot) k r h
   exact ⟨r', (Br.reg k z).trans h1, h2⟩
 have ent2 : ∀ o r, g.ent o = some r -> g'.ent o = some r := fun o r h => Br.ent _ _ (A.ent _ _ h)
 have ins2 : ∀ c k fs, c ≠ 5 -> g.ins c k = some fs -> g'.ins c k = some fs := fun c k fs hc h => Br.ins _ _ _ (A.ins _ _ _ hc h)
 have ty2 : Ty g' kt 72 (.ins 3 kpar) := by
  obtain ⟨r, ko, a1, a2, a3, a4, a5, a6⟩ := A.ty
  exact ⟨r, ko, Br.ins _ _ _ a1, a2, a3, a4, a5, Br.dct _ _ a6⟩
 have nmd : ∀ b ∈ B, b.nm ≠ "d" /\ b.nm ≠ "t" /\ b.nm ≠ "e" := fun b hb => by
  obtain ⟨r, b1, _⟩ := broM b hb
  rw [b1.nm]
  exact ⟨gG (by decide +kernel) _ (D.rok r b1.row).nm, gG (by decide +kernel) _ (D.rok r b1.row).nm, gG (by decide +kernel) _ (D.rok r b1.row).nm⟩
 refine hX ?_
 have whose : ∀ (x : Str) (o : Nat), x ≠ "t" -> x ≠ "d" -> (x, o) ∈ (rq1 rq ke B).es -> (∃ r ∈ rows, r.nm = x /\ r.e = o) \/ ∃ b ∈ B, b.nm = x /\ b.e = o := by
  intro x o h1 h2 h
  rcases List.mem_append.mp h with z | z
  ·rcases List.mem_append.mp z with w | w
   ·rcases P.kind with ⟨e1, e2⟩ | ⟨_, e2, _⟩
    ·rw [e2] at w
     exact .inl (j0 D h1 (aR.mpr w))
    ·rw [e2] at w; cases w
   ·have := List.mem_singleton.mp w
    cases this; exact absurd rfl h2
  ·obtain ⟨b, hb, e⟩ := List.mem_map.mp z
   cases e; exact .inr ⟨b, hb, rfl, rfl⟩
 refine kT (bnd := c.bnd) (hk := c.p) B (by decide +kernel) R (Br.ins _ _ _ A.scp) hq hr (by rw [Br.root]; exact rootq) ty2 (by decide) (by decide) (by decide) (by decide) (F.mono fun k r h => ?_) hnf (by have := D.used; have := A.used; have := Br.used; have := Br.all.len; omega) ?_ (by show aA (L.rr.homes ++ _) 73 = none; rw [hom]; rfl) (fun tr h => ?_) (fun i j x y hij hx hy hn => ?_) (fun tr h y hy => ?_) (fun g3 H3 kt2 ke2 Q R3 A3 hQ => ?_) q
 ·obtain ⟨r', h1, h2, _, h3, _⟩ := RG2 k r h
  exact ⟨r', h1, h3, h2⟩
 ·cases w : sel "e" (rq1 rq ke B).es with
  | nil => rfl
  | cons o l =>
   have := aR.mp (show o ∈ sel "e" (rq1 rq ke B).es by rw [w]; exact List.mem_cons_self ..)
   rcases whose "e" o (by decide +kernel) (by decide +kernel) this with ⟨r, hr, z, _⟩ | ⟨b, hb, z, _⟩
   ·exact absurd z (gG (by decide +kernel) _ (D.rok r hr).nm)
   ·exact absurd z (nmd b hb).2.2
 ·obtain ⟨r, b1, b2⟩ := broM tr h
  exact ⟨(nmd tr h).2.2, true, rq.part, b2⟩
 ·have pw := ii (near := near) D.rok D.dist
  rw [List.pairwise_iff_getElem] at pw
  intro e
  obtain ⟨r1, b1, t1⟩ := bro i x hx
  obtain ⟨r2, b2, t2⟩ := bro j y hy
  obtain ⟨hi, t1⟩ := List.getElem?_eq_some_iff.mp t1
  obtain ⟨hj, t2⟩ := List.getElem?_eq_some_iff.mp t2
  have o1 := D.rok r1 b1.row
  have o2 := D.rok r2 b2.row
  refine pw i j hi hj hij (by rw [t1, t2]; exact b1.nm.symm.trans (hn.trans b2.nm)) ?_
  rw [t1, t2]
  rw [b1.ns, b2.ns, b1.a, b2.a] at e
  obtain ⟨e1, e2⟩ := Prod.mk.inj e
  show (r1.ns, r1.a) = (r2.ns, r2.a)
  rw [(jy o1.ns o2.ns e1), (mu o1.a o2.a e2)]
 ·obtain ⟨r, b1, b2⟩ := broM tr h
  rcases whose _ _ (nmd tr h).2.1 (nmd tr h).1 (aR.mp hy) with ⟨r', hr', z1, z2⟩ | ⟨b', hb', z1, z2⟩
  ·obtain ⟨er, so, sr, e1, e2, e3, e4, _⟩ := (D.rok r' hr').ex
   rw [<- z2, G.e_of (ent2 _ _ e1)]
   refine ⟨_, e4, fun e => ?_⟩
   rcases b1.sw2 with w | w
   ·have w : (73 : Int) ∈ r'.ns := by rw [(Prod.mk.inj e).left]; exact w
    have := (D.rok r' hr').ns 73 w
    omega
   ·have w : r'.a = 73 := by rw [(Prod.mk.inj e).right]; exact w
    have := (D.rok r' hr').a
    omega
  ·obtain ⟨r', b3, eb, _, _, e1, e2, e3, e4, _⟩ := broM b' hb'
   rw [<- z2, G.e_of e1]
   refine ⟨_, e4, fun e => ?_⟩
   obtain ⟨x1, x2⟩ := Prod.mk.inj e
   obtain ⟨m1, m2⟩ := b3.nsm D.rok
   rcases b1.sw2 with w | w
   ·have w : (73 : Int) ∈ b'.ns := by rw [x1]; exact w
    have := m1 73 w
    omega
   ·have w : b'.a = 73 := by rw [x2]; exact w
    omega
 ·have RG3 := A3.regs hq hr (by rw [Br.root]; exact rootq)
  refine ay fun X hX => ?_
  obtain ⟨cs2, C2, cl2, an2⟩ := C.map fun k r h => by
   obtain ⟨r', h1, h2, h3, _⟩ := RG2 k r h
   obtain ⟨r'', h4, h5, h6, _⟩ := RG3 k r' h1
   exact ⟨r'', h4, h5.trans h2, h6.trans h3⟩
  have bE : ∀ b ∈ B, ∃ eb so sr, g3.ent b.e = some eb /\ eb.kind = "sub" /\ eb.name = b.nm /\ eb.key = some (b.ns, b.a) /\ eb.data = .ins 0 so /\ g3.ins 0 so = some (SF sr) /\ eb.unique = b.uq /\ eb.implicit = true /\ eb.overridden = false /\ eb.part = rq.part /\ b.ns.length <= 2 := by
   intro b hb
   obtain ⟨r, b1, eb, so, sr, e1, e2, e3, e4, e5, e6, e7, e8, e9, e10, e11, e12, e13⟩ := broM b hb
   exact ⟨eb, so, sr, A3.ent _ _ e1, e2, e3, e4, e5, A3.ins _ _ _ (by decide) e6, e9, e10, e11, e13, by rw [b1.ns, List.length_map]; exact (D.rok r b1.row).nsL⟩
  obtain ⟨fresh3, t3, tt1, tt2, _⟩ := A3.te
  have rowK : ∀ r ∈ rows, fc (g3.e r.e) = false /\ bY (g3.e r.e) 72 = false := by
   intro r hr
   obtain ⟨er, _, _, e1, e2, e3, e4, _⟩ := (D.rok r hr).ex
   rw [G.e_of (A3.ent _ _ (ent2 _ _ e1))]
   have m : bY er 72 = false := by
    unfold bY
    rw [e4]
    show (decide ((72 : Int) ∈ r.ns) || decide (r.a = 72)) = false
    rw [decide_eq_false (fun h => by have := (D.rok r hr).ns 72 h; omega), decide_eq_false (fun h => by have := (D.rok r hr).a; omega)]; rfl
   exact ⟨by unfold fc; rw [m, Bool.and_false], m⟩
  have broK : ∀ b ∈ B, fc (g3.e b.e) = true /\ bY (g3.e b.e) 72 = true := by
   intro b hb
   obtain ⟨eb, so, sr, e1, e2, e3, e4, _⟩ := bE b hb
   obtain ⟨r, b1, _⟩ := broM b hb
   rw [G.e_of e1]
   have m : bY eb 72 = true := by
    unfold bY
    rw [e4]
    show (decide ((72 : Int) ∈ b.ns) || decide (b.a = 72)) = true
    rcases b1.ment with z | z
    ·rw [decide_eq_true z]; rfl
    ·rw [decide_eq_true z, Bool.or_true]
   exact ⟨by unfold fc; rw [m, e2, Bool.and_true]; exact decide_eq_true rfl, m⟩
  have typV : ∀ e : Er, e.kind = "type" -> fc e = false := fun e h => by
   unfold fc; rw [h, show decide (("type" : Str) = "sub") = false by decide +kernel]; rfl
  have ordq : ∀ o ∈ rq.ord, o = L.ke \/ ∃ r ∈ rows, r.e = o := by
   intro o ho
   rcases P.kind with ⟨_, e2⟩ | ⟨_, _, e2, _⟩
   ·rw [e2, D.ord] at ho
    rcases List.mem_cons.mp ho with y | y
    ·exact .inl y
    ·obtain ⟨r, hr, e⟩ := List.mem_map.mp y
     exact .inr ⟨r, hr, e⟩
   ·rw [e2] at ho; cases ho
  have ordAll : ∀ o ∈ (aj (rq1 rq ke B) "e" ke2).ord, (fc (g3.e o) = false /\ ((g3.e o).kind ≠ "sub" \/ bY (g3.e o) 72 = false)) \/ ∃ b ∈ B, b.e = o := by
   intro o ho
   rcases List.mem_append.mp ho with z | z
   ·rcases List.mem_append.mp z with w | w
    ·rcases List.mem_append.mp w with y | y
     ·rcases ordq o y with x | ⟨r, hr, x⟩
      ·left
       rw [x, (G.e_of (A3.ent _ _ (ent2 _ _ te1)))]
       exact ⟨typV _ te2, .inl (by rw [te2]; decide +kernel)⟩
      ·left
       rw [<- x]
       exact ⟨(rowK r hr).1, .inr (rowK r hr).2⟩
     ·left
      rw [List.mem_singleton.mp y, (G.e_of (A3.ent _ _ (Br.ent _ _ td1)))]
      exact ⟨typV _ td2, .inl (by rw [td2]; decide +kernel)⟩
    ·obtain ⟨b, hb, e⟩ := List.mem_map.mp w
     exact .inr ⟨b, hb, e⟩
   ·left
    rw [List.mem_singleton.mp z, (G.e_of tt1)]
    exact ⟨typV _ tt2, .inl (by rw [tt2]; decide +kernel)⟩
  obtain ⟨tr, tr1, tr2, _, tr4⟩ := ty2.tag
  obtain ⟨tpr, tp1, tp2, _, _⟩ := tp.tag
  refine hX ?_
  refine rL (c := fun o => fc (g3.e o)) (inhB := fun _ => true) R3 A3.scp rfl A3.regq A3.regr (A3.ins _ _ _ (by decide) tr1) (kh := kq) (prt := rq.part) ?_ A3.regq C2 (by rw [cl2]; simp; exact aK _ 0 0 0 .x (.n 5) (.a (.a .x (.n 1)) (.n 1)) (.n 20) rfl cl) (fun o ho hks hme him H' Q R' hQ' => ?_) (fun o ho => ?_) (fun H' kf K1 k1 k2 k3 => ?_)
  ·rw [tr2]
   show aA ((L.rr.homes ++ [((72 : Int), (kq, rq.part))]) ++ [((73 : Int), (kq, (rq1 rq ke B).part))]) 72 = _
   rw [hom]; rfl
  ·rw [tr2] at hme
   rcases ordAll o ho with ⟨_, z | z⟩ | ⟨b, hb, z⟩
   ·exact absurd hks z
   ·rw [z] at hme; cases hme
   ·obtain ⟨eb, so, sr, e1, e2, e3, e4, e5, e6, e7, _, _, _, e11⟩ := bE b hb
    refine ay fun X hX => ?_
    obtain ⟨r, b1, _⟩ := broM b hb
    have o1 := D.rok r b1.row
    obtain ⟨er, _, _, r1, r2, r3, r4, r5, r6, r7, r8, r9, _⟩ := o1.ex
    subst z
    have r1' := A3.ent _ _ (ent2 _ _ r1)
    have hreg : ∃ rh0 : Rg, g3.reg c.p = some rh0 /\ (∀ (x : Str) (o : Nat), (x, o) ∈ rp.es -> (x, o) ∈ rh0.es) /\ (∀ (x : Str) (o : Nat), x ≠ "e" -> (x, o) ∈ rh0.es -> (x, o) ∈ rp.es \/ (x, o) ∈ (rq1 rq ke B).es) := by
     rcases P.kind with ⟨w1, w2⟩ | ⟨w1, _⟩
     ·refine ⟨_, by rw [<- w1]; exact A3.regq, fun x o h => ?_, fun x o hx h => ?_⟩
      ·show (x, o) ∈ ((rq.es ++ [(("d" : Str), ke)]) ++ B.map (fun b => (b.nm, b.e))) ++ [(("e" : Str), ke2)]
       rw [w2]
       exact List.mem_append_left _ (List.mem_append_left _ (List.mem_append_left _ h))
      ·have h : (x, o) ∈ (rq1 rq ke B).es ++ [(("e" : Str), ke2)] := h
       rcases List.mem_append.mp h with y | y
       ·exact .inr y
       ·have := List.mem_singleton.mp y
        cases this; exact absurd rfl hx
     ·have e1 := A3.reg c.p w1.symm (by rw [Br.root, A.root]; exact D.A.nep.symm)
      rw [Br.reg _ w1.symm, A.reg _ w1.symm D.A.nep.symm, D.A.regp] at e1
      exact ⟨rp, e1, fun _ _ h => h, fun _ _ _ h => .inl h⟩
    obtain ⟨rh0, g1, g2', g3'⟩ := hreg
    have nb := nmd b hb
    refine hX ?_
    refine vW (kpar := kpar) (one := r.e) (kh := c.p) (prt := "visible") R' A3.scp rfl A3.regq A3.regr (A3.ins _ _ _ (by decide) tr1) tr4 (A3.ins _ _ _ (by decide) (ins2 _ _ _ (by decide) tp1)) ?_ g1 e1 e4 e5 e6 (by exact leA (by assumption) rfl) ?_ r1' r2 ?_ ?_ (fun x hx hk => ?_) hQ'
    ·rw [tp2]
     show aA ((L.rr.homes ++ [((72 : Int), (kq, rq.part))]) ++ [((73 : Int), (kq, (rq1 rq ke B).part))]) 71 = _
     rw [hom]; rfl
    ·rw [e3, b1.nm]
     refine aR.mpr (g2' _ _ ?_)
     rw [D.es]
     exact List.mem_cons_of_mem _ (List.mem_map.mpr ⟨r, b1.row, rfl⟩)
    ·rw [tr2, tp2, b1.ns, b1.a, jz o1.ns, mv o1.a]
     exact r4
    ·rw [r9, e7, b1.uq]
    ·rw [e3] at hx
     have key : (∃ r ∈ rows, r.nm = b.nm /\ r.e = x) \/ ∃ b' ∈ B, b'.nm = b.nm /\ b'.e = x := by
      rcases g3' _ _ nb.2.2 (aR.mp hx) with y | y
      ·exact .inl (j0 D nb.2.1 (aR.mpr y))
      ·exact whose _ _ nb.2.1 nb.1 y
     rcases key with ⟨r', hr', _, z2⟩ | ⟨b', hb', _, z2⟩
     ·obtain ⟨er', _, _, y1, _, _, y4, _⟩ := (D.rok r' hr').ex
      rw [<- z2, G.e_of (A3.ent _ _ (ent2 _ _ y1))]
      exact ⟨_, y4⟩
     ·obtain ⟨eb', _, _, y1, _, _, y4, _⟩ := bE b' hb'
      rw [<- z2, G.e_of y1]
      exact ⟨_, y4⟩
  ·have wi : (cs2.any fun x => decide (x.2.number = (aj (rq1 rq ke B) "e" ke2).number)) = true := by
    rw [an2, List.any_cons]
    show (decide (rq.number = rq.number) || _) = true
    rw [decide_eq_true rfl]; rfl
   rw [wi]
   rcases ordAll o ho with ⟨v0, z | z⟩ | ⟨b, hb, z⟩
   ·rw [v0]; exact .noSub z
   ·rw [v0]; exact .noMent (by rw [tr2]; exact z)
   ·subst z
    refine ay fun X hX => ?_
    obtain ⟨eb, so, sr, e1, e2, e3, e4, e5, e6, e7, e8, e9, e10, e11⟩ := bE b hb
    have kb := broK b hb
    refine hX ?_
    rw [kb.1]
    have eg := G.e_of e1
    rcases P.kind with ⟨_, w2⟩ | ⟨_, _, _, ⟨w1, w2⟩ | ⟨w1, w2⟩⟩
    ·refine .take (by rw [eg]; exact e2) (by rw [tr2]; exact kb.2) (by rw [eg]; exact e9) (.inr rfl) ?_ (.inr ⟨rfl, ?_⟩)
     ·show rq.kind = "package"
      rw [w2]; exact D.A.rpk.1
     ·rw [eg, e10, w2]; exact D.A.rpk.2.2.2
    ·exact .takeB (by rw [eg]; exact e2) (by rw [tr2]; exact kb.2) (by rw [eg]; exact e9) (by rw [eg]; exact e8) rfl w1 rfl (by rw [eg, e10]; exact w2)
    ·exact .take (by rw [eg]; exact e2) (by rw [tr2]; exact kb.2) (by rw [eg]; exact e9) (.inr rfl) w1 (.inl (by rw [eg, e10]; exact w2))
  ·refine hQ H' kf K1 k1 k2 ?_
   rw [k3]
   have fB : ∀ l : List TR, (∀ b ∈ l, b ∈ B) -> (l.map (·.e)).filter (fun o => fc (g3.e o)) = l.map (·.e) := by
    intro l hl
    rw [List.filter_eq_self]
    intro o ho
    obtain ⟨b, hb, e⟩ := List.mem_map.mp ho
    rw [<- e]; exact (broK b (hl b hb)).1
   have f1 : (rq.ord).filter (fun o => fc (g3.e o)) = [] := by
    rw [List.filter_eq_nil_iff]
    intro o ho
    rcases ordq o ho with z | ⟨r, hr, z⟩
    ·rw [z, (G.e_of (A3.ent _ _ (ent2 _ _ te1))), typV _ te2]; decide
    ·rw [<- z, (rowK r hr).1]; decide
   show some (bn ((((rq.ord ++ [ke]) ++ B.map (·.e)) ++ [ke2]).filter fun o => fc (g3.e o))) = _
   rw [List.filter_append, List.filter_append, List.filter_append, f1, fB B fun _ h => h, List.filter_cons_of_neg (by rw [(G.e_of (A3.ent _ _ (Br.ent _ _ td1))), typV _ td2]; decide), List.filter_cons_of_neg (by rw [(G.e_of tt1), typV _ tt2]; decide)]
   simp
end
section
variable {g g0 g' g2 : G} {H : MH} {t : Hid} {Q : MV -> MH -> Prop} {d k : Nat}
noncomputable def w7 (L : Lw) (rows : List Row) : Rg := lrp L.rp "private" rows
theorem tD {c : Ctx} {L : Lw} {rows : List Row} {i : Nat} (B : pg g0 c L) (F : wt g0 L) (I : dX g0 g c L.rp "private" rows i) (hl : rows.length <= 6) : q8 g c L rows (w7 L rows) := by
 obtain ⟨re, e1, e2, _⟩ := F
 refine ⟨⟨?_, (I.reg _ B.nea).trans B.ard, by rw [I.root]; exact B.ardk, I.regp, ⟨B.rp.1, B.rp.2.1, B.rp.2.2.1, rfl⟩, B.rk, by rw [I.root]; exact B.nep, B.nea, B.num⟩, B.hom, ?_, ?_, I.rok, I.dist, I.ins _ _ _ B.sc, ⟨re, I.ent _ _ e1, e2⟩, hl, by have := I.used; have := B.used; omega, I.laid, I.sub, ?_, B.cok⟩
 ·rw [I.root]; exact (I.reg _ B.nep).trans B.root
 ·show L.rp.es ++ _ = _
  rw [B.rp.2.2.2.2.1]; rfl
 ·show L.rp.ord ++ _ = _
  rw [B.rp.2.2.2.2.2]; rfl
 ·obtain ⟨k', h⟩ := B.st0
  exact ⟨k', I.ins _ _ _ h⟩
theorem q8.ext {c : Ctx} {L : Lw} {rows : List Row} {rp : Rg} (D : q8 g c L rows rp) (E : yq g g') (hu : g.used <= 390) : q8 g' c L rows rp := by
 obtain ⟨re, e1, e2⟩ := D.ke
 obtain ⟨k', h⟩ := D.st0
 refine ⟨⟨by rw [E.root]; exact E.reg _ _ D.A.root, E.reg _ _ D.A.ard, by rw [E.root]; exact D.A.ardk, E.reg _ _ D.A.regp, D.A.rpk, D.A.rk, by rw [E.root]; exact D.A.nep, D.A.nea, D.A.num⟩, D.hom, D.es, D.ord, fun r hr => ?_, D.dist, by rw [E.ins]; exact D.sc, ⟨re, E.ent _ _ e1, e2⟩, D.len, by have := E.used; exact bu _ _ 0 0 .y (.n 390) .x (.a .y (.n 10)) .x (.n 400) rfl hu this, by rw [E.lst]; exact D.laid, by rw [E.lst]; exact D.sub, ⟨k', by rw [E.ins]; exact h⟩, D.cok⟩
 exact (D.rok r hr).mono (by rw [E.lst]) (fun _ h => E.ent _ _ h) (fun k fs h => by rw [E.ins]; exact h) fun _ s => s.mono fun c k fs _ h => by rw [E.ins]; exact h
theorem Ty.ext {kt : Nat} {n : Int} {p : MV} (T : Ty g kt n p) (hi : ∀ c k fs, g.ins c k = some fs -> g'.ins c k = some fs) (hd : ∀ k xs, g.dct k = some xs -> g'.dct k = some xs) : Ty g' kt n p := by
 obtain ⟨r, ko, a, b, c, e, f, h⟩ := T
 exact ⟨r, ko, hi _ _ _ a, b, c, e, f, hd _ _ h⟩
structure yM (ρ : Rho) (c : Ctx) (L : Lw) (way kq kt : Nat) (B : List TR) : Prop where
 scope : ad ρ "scope" = some (.ins 5 L.ksc)
 laid : ad ρ "laid" = some (.lst c.laid)
 subtypes : ad ρ "subtypes" = some (.lst c.sub)
 way : ad ρ "way" = some (.int way)
 place : ad ρ "place" = some (.ins 2 kq)
 made : ad ρ "made" = some (.ins 3 kt)
 brought : ad ρ "brought" = some (.fz (bn (B.map (·.e))))
 dot : ad ρ cz = none
theorem vR {c : Ctx} {L : Lw} {rows : List Row} {i way : Nat} {ρ : Rho} (R : Rep g H) (Ba : pg g0 c L) (F : wt g0 L) (I : dX g0 g c L.rp "private" rows i) (hl : rows.length <= 6) (hw5 : way < 5) (hw : ad ρ "way" = some (.int way)) (E : jV ρ c L)
  (q : ∀ g1 g2 g' H' ρ' kq rq kpar kt ke B, Rep g' H' -> q8 g1 c L rows (w7 L rows) -> o0 g1 c.p (w7 L rows) (decide (way < 2)) (if way > 2 then 1 else 0) kq rq -> Ty g1 kpar 71 .none -> aZ g1 g2 kq L.ksc kt kpar ke rq L.rr L.sc "d" 72 -> bU g2 g' kq (aj rq "d" ke) c.bnd c.p 71 72 (bW (decide (way < 2)) rows) B -> yM ρ' c L way kq kt B -> W (wD d ρ') H' (q7 Q)) : W (wG d ρ) H (q7 Q) := by
 have D := tD Ba F I hl
 have u0 : g.used <= 390 := by have := I.used; have := Ba.used; omega
 unfold wG
 refine tM R D.A (by exact leA (by assumption) rfl) E hw hw5 fun g1 H1 kq rq ρ1 R1 X P PE => ?_
 have D1 := D.ext X u0
 have E1 := PE.e.scope
 have E2 := PE.place
 have E3 := PE.e.pv
 have E4 := PE.way
 have E5 := PE.e.entity
 have E6 := PE.e.told
 refine dU ?_
 refine qO E1 (qO E2 ?_)
 refine aB (aI (Q := fun v H' => (∃ kpar, v = .ins 3 kpar /\ Ty g1 kpar 71 .none) /\ H' = H1) ?_ ?_)
 ·have tk : Ty g1 L.kt 71 .none := Ba.ty.ext (fun c k fs h => by rw [X.ins]; exact I.ins _ _ _ h) fun k xs h => by rw [X.dct]; exact I.dct _ _ h
  obtain ⟨re, e1, _, e3⟩ := F
  have e1 := X.ent _ _ (I.ent _ _ e1)
  cases hpv : L.pv
  ·rw [hpv] at E3
   repeat trivial
   exact ⟨⟨_, rfl, tk⟩, rfl⟩
  ·rw [hpv] at E3
   obtain ⟨sf, kf, cc, f1, f2, f3⟩ := e3 hpv
   have f2 : g1.ins 4 sf = some (StF kf cc) := by rw [X.ins]; exact I.ins _ _ _ f2
   have f3 : Ty g1 kf 71 .none := f3.ext (fun c k fs h => by rw [X.ins]; exact I.ins _ _ _ h) fun k xs h => by rw [X.dct]; exact I.dct _ _ h
   repeat trivial
   cases decide ((way : Int) < 2)
   ·repeat trivial
    exact ⟨⟨_, rfl, tk⟩, rfl⟩
   ·repeat (first | trivial | rw [f1])
    exact ⟨⟨_, rfl, f3⟩, rfl⟩
 rintro _ H2 ⟨⟨kpar, rfl, tp⟩, hH⟩
 rw [hH]
 clear hH H2
 repeat trivial
 refine tZ R1 D1 P tp fun H2 g2 g' B kt ke R2 A Br => ?_
 repeat trivial
 refine lY ?_
 repeat trivial
 exact q g1 g2 g' H2 _ kq rq kpar kt ke B R2 D1 P tp A Br ⟨PE.e.scope, PE.e.laid, PE.e.subtypes, PE.way, PE.place, rfl, rfl, PE.e.dot⟩
end
section
variable {g g0 g' g2 : G} {H : MH} {t : Hid} {Q : MV -> MH -> Prop} {d k : Nat}
theorem nT {n m hn : Int} {P : TR -> Prop} {T B : List TR} (r : fY (fun t b => b = t.sw n m b.e /\ P b) T B) : T.map (fun t => dy hn (t.sw n m t.e)) = B.map (dy hn) := by
 induction r with
 | nil => rfl
 | cons h r ih =>
  rw [List.map_cons, List.map_cons, ih]
  congr 1
  rw [h.1]; rfl
theorem vV {b : Bool} (q : Q (.int (if b then 1 else 0)) H) : W (aG "int" [.bool b]) H Q := by
 have e : aG "int" [.bool b] = wK (.bool b) := by kernel_rfl
 rw [e]
 exact ⟨_, _, rfl, q⟩
theorem gB {L : Lw} {kq kt kpar ke : Nat} {rq rr : Rg} {sc : Scr} {x : Str} {n m : Int} {bnd : MV} {hk : Nat} {T B : List TR} (hq : g.reg kq = some rq) (hr : g.reg g.root = some rr) (hne : g.root ≠ kq) (A : aZ g g2 kq L.ksc kt kpar ke rq rr sc x m) (Br : bU g2 g' kq (aj rq x ke) bnd hk n m T B) : ∀ k r, g.reg k = some r -> ∃ r', g'.reg k = some r' /\ r'.parent = r.parent /\ r'.number = r.number /\ r'.kind = r.kind /\ r'.level = r.level /\ r'.part = r.part := by
 intro k r h
 by_cases z : k = kq
 ·subst z
  rw [hq] at h; cases h
  exact ⟨_, Br.regq, rfl, rfl, rfl, rfl, rfl⟩
 ·obtain ⟨r', h1, h2⟩ := A.regs hq hr hne k r h
  exact ⟨r', (Br.reg k z).trans h1, h2⟩
theorem bt.cons_map {k : Nat} {r : Rg} {cs : List (Nat × Rg)} (C : bt g (some k) ((k, r) :: cs)) {r2 : Rg} (h2 : g'.reg k = some r2) (h : ∀ k r, g.reg k = some r -> ∃ r', g'.reg k = some r' /\ r'.parent = r.parent /\ r'.number = r.number) : ∃ cs', bt g' (some k) ((k, r2) :: cs') /\ cs'.length = cs.length := by
 obtain ⟨cs', c1, c2, _⟩ := C.map h
 cases c1 with
 | cons a b =>
  rw [h2] at a; cases a
  exact ⟨_, .cons h2 b, by simpa using c2⟩
theorem vQ {c : Ctx} {L : Lw} {rows : List Row} {rp : Rg} {way : Nat} {g1 : G} {ρ : Rho} {kq kpar kt ke : Nat} {rq : Rg} {B : List TR} (R : Rep g' H) (D : q8 g1 c L rows rp) (P : o0 g1 c.p rp (decide (way < 2)) (if way > 2 then 1 else 0) kq rq) (tp : Ty g1 kpar 71 .none) (A : aZ g1 g2 kq L.ksc kt kpar ke rq L.rr L.sc "d" 72) (Br : bU g2 g' kq (aj rq "d" ke) c.bnd c.p 71 72 (bW (decide (way < 2)) rows) B) (E : yM ρ c L way kq kt B)
  (q : ∀ H', Q (.bool true) H') : W (wD d ρ) H (q7 Q) := by
 obtain ⟨cs, C, cl, _⟩ := P.ch
 have RG := gB (L := L) P.reg D.A.root P.nroot A Br
 obtain ⟨rh, rh1, _, rh3, _, rh5, _⟩ := RG _ _ D.A.regp
 have hq : g'.reg kq = some (rq1 rq ke B) := Br.regq
 obtain ⟨cs', C', cl'⟩ := C.cons_map hq fun k r h => by
  obtain ⟨r', h1, h2, h3, _⟩ := RG k r h
  exact ⟨r', h1, h2, h3⟩
 have rootq : g2.root ≠ kq := by rw [A.root]; exact P.nroot
 have hr : g'.reg g'.root = some (L.rr.wHom 72 (kq, rq.part)) := by
  rw [Br.root]; exact (Br.reg _ rootq).trans A.regr
 have Bl : B.length <= 6 := by
  rw [<- Br.all.len]
  unfold bW
  rw [List.length_map]
  exact Nat.le_trans (bf _ _) D.len
 have hlaid : g'.lst c.laid = some (rows.map fun r => .lst r.kr) := Br.lst _ _ (A.lst _ _ D.laid)
 have hsub : g'.lst c.sub = some [.ins 4 c.s0, .ins 4 c.s1] := Br.lst _ _ (A.lst _ _ D.sub)
 obtain ⟨k0, st0⟩ := D.st0
 have st0 : g'.ins 4 c.s0 = some (StF k0 c.bnd) := Br.ins _ _ _ (A.ins _ _ _ (by decide) st0)
 have hsc : g'.ins 5 L.ksc = some (ScF (L.sc.wPl kq)) := Br.ins _ _ _ A.scp
 have nz : decide (((way : Nat) : Int) < 2) = decide (way < 2) := decide_eq_decide.mpr (by omega)
 have uz : (if (decide ((2 : Int) < ((way : Nat) : Int))) = true then (1 : Int) else 0) = if way > 2 then 1 else 0 := by
  by_cases z : way > 2
  ·rw [if_pos z, if_pos (decide_eq_true (by exact clt (a := 2) (aK _ 0 0 0 (.a (.n 2) (.n 1)) .x (.a (.n 2) (.n 1)) .x rfl z)))]
  ·rw [if_neg z, if_neg (by simp; exact cle (b := 2) (aK _ 0 0 0 .x (.n 2) .x (.n 2) rfl (Nat.le_of_not_lt z)))]
 have E1 := E.scope
 have E2 := E.laid
 have E3 := E.subtypes
 have E4 := E.way
 have E5 := E.place
 have E6 := E.made
 have E7 := E.brought
 have E8 := E.dot
 unfold wD
 repeat trivial
 rw [nz]
 refine xt (near := decide (way < 2)) (hk := c.p) (rh := rh) rows R hlaid rh1 (by have := D.len; exact leA (by assumption) rfl) (fun r hr' => ?_) fun H1 kd K1 k1 k2 k3 => ?_
 ·have o := D.rok r hr'
  obtain ⟨er, so, sr, e1, e2, e3, e4, e5, e6, e7, e8, e9, e10, _⟩ := o.ex
  refine ⟨Br.lst _ _ (A.lst _ _ o.lst), ?_, by have := o.nsL; exact leA (by assumption) rfl, er, Br.ent _ _ (A.ent _ _ e1), e10, e8, e9⟩
  rcases o.part with z | z <;> rw [z] <;> decide +kernel
 have dl : ((rows.filter (cY (decide (way < 2)) 71)).map fun r => dy rh.number (r.tr.sw 71 72 r.e)) = B.map (dy rh.number) := by
  rw [<- nT Br.all]
  unfold bW
  rw [List.map_map]; rfl
 rw [dl] at k3
 obtain ⟨R1, fr1⟩ := R.keepL K1 k1 k2 k3
 have lk : ∀ k xs, g'.lst k = some xs -> (g'.setL kd (B.map (dy rh.number))).lst k = some xs := fun k xs h => (af (fun z => by rw [z, fr1] at h; cases h)).trans h
 have hkd : (g'.setL kd (B.map (dy rh.number))).lst kd = some (B.map (dy rh.number)) := ah
 repeat trivial
 refine vV ?_
 rw [uz]
 repeat trivial
 refine bT (i := 0) (R1.lstAt (lk _ _ hsub)) (by simp) rfl ?_
 have st1 : (g'.setL kd (B.map (dy rh.number))).ins 4 c.s0 = some (StF k0 c.bnd) := st0
 repeat trivial
 refine vY (hk := c.p) (part := rq.part) (sc := (L.sc.wPl kq)) (rq := rq1 rq ke B) (rh := rh) (cs := cs') B R1 hsc rfl hq (C'.mono fun _ _ h => h) (by rw [cl']; exact aK _ 0 0 0 .x (.n 5) (.a .x (.n 1)) (.n 9) rfl cl) rh1 (by rw [rh5]; exact P.lev) (fun b hb => ?_) (by exact leA (by assumption) rfl) (by decide) D.cok (fun H' K' => ?_) fun H2 R2 K2 => ?_
 ·obtain ⟨_, _, _, _, h2⟩ := Br.all.mem_right b hb
  refine ⟨h2.mono (fun _ _ h => h) fun _ _ _ _ h => h, ?_⟩
  exact List.mem_append_right _ (List.mem_map.mpr ⟨b, hb, rfl⟩)
 ·show H'.lst kd = _
  rw [K'.lst kd k2, k3]
 have Br2 : bU g2 (g'.setL kd (B.map (dy rh.number))) kq (aj rq "d" ke) c.bnd c.p 71 72 (bW (decide (way < 2)) rows) B :=
  ⟨Br.regq, Br.reg, Br.ent, Br.ins, fun k xs h => lk _ _ (Br.lst _ _ h), Br.dct, Br.root, Br.used, Br.all.mono fun _ _ h => ⟨h.1, h.2.mono (fun _ _ h => h) fun _ _ _ _ h => h⟩⟩
 have hr2 : (g'.setL kd (B.map (dy rh.number))).reg (g'.setL kd (B.map (dy rh.number))).root = some (L.rr.wHom 72 (kq, rq.part)) := hr
 have hq2 : (g'.setL kd (B.map (dy rh.number))).reg kq = some (rq1 rq ke B) := hq
 have C2 : bt (g'.setL kd (B.map (dy rh.number))) (some kq) ((kq, rq1 rq ke B) :: cs') := C'.mono fun _ _ h => h
 have rh2 : (g'.setL kd (B.map (dy rh.number))).reg c.p = some rh := rh1
 have hsub2 := lk _ _ hsub
 have rootq2 : (g'.setL kd (B.map (dy rh.number))).root ≠ kq := by
  show g'.root ≠ kq
  rw [Br.root]; exact rootq
 clear lk hlaid hsub R R1 K1 k1 k2 k3 Br hr hq C' rh1 hsc fr1 K2
 generalize g'.setL kd (B.map (dy rh.number)) = gd at R2 Br2 hr2 hq2 C2 rh2 hsub2 rootq2 hkd st1
 repeat trivial
 refine qJ R2 D P tp A Br2 fun H3 g3 g4 B2 kt2 ke2 R3 A3 Br3 => ?_
 have hkd4 := Br3.lst _ _ (A3.lst _ _ hkd)
 have hsub4 := Br3.lst _ _ (A3.lst _ _ hsub2)
 have st4 : g4.ins 4 c.s0 = some (StF k0 c.bnd) := Br3.ins _ _ _ (A3.ins _ _ _ (by decide) st1)
 have hsc4 := Br3.ins _ _ _ A3.scp
 have RG3 := gB (L := L) hq2 hr2 rootq2 A3 Br3
 obtain ⟨rh', h41, _, h43, _, h45, _⟩ := RG3 _ _ rh2
 obtain ⟨cs4, C4, cl4⟩ := C2.cons_map Br3.regq fun k r h => by
  obtain ⟨r', h1, h2, h3, _⟩ := RG3 k r h
  exact ⟨r', h1, h2, h3⟩
 have Bl2 : B2.length <= 6 := by rw [<- Br3.all.len]; exact Bl
 repeat trivial
 refine lY ?_
 repeat trivial
 refine cy (R3.lstAt hkd4) (by rw [List.length_map]; exact leA (by assumption) rfl) fun s hn hs => ?_
 repeat trivial
 have nsl : ∀ b ∈ B, b.ns.length <= 2 := fun b hb => by
  obtain ⟨i, hi⟩ := List.getElem?_of_mem hb
  obtain ⟨r, b1, _⟩ := fJ (c := c) Br2 i b hi
  rw [b1.ns, List.length_map]
  exact (D.rok r b1.row).nsL
 refine bD B (dy rh.number) (fun b => some (dy rh.number (b.sw 72 73 b.e))) hn (hs H3 (R3.lstAt hkd4)) (fun b hb => ?_) ?_
 ·have nb := nsl b hb
  repeat trivial
  refine aU (i := 0) (by simp) rfl ?_
  repeat trivial
  refine aU (i := 1) (by simp) rfl ?_
  repeat trivial
  refine bm (by rw [List.length_map]; exact leA (by assumption) rfl) fun s5 hn5 hi5 => ?_
  repeat trivial
  refine bD b.ns MV.int (fun x => some (.int (sw 72 73 x))) hn5 (hi5 H3) (fun x hx => ?_) ?_
  ·repeat trivial
   refine dT ?_
   repeat trivial
  have fm : b.ns.filterMap (fun x => some (MV.int (sw 72 73 x))) = (b.ns.map (sw 72 73)).map MV.int := by
   rw [List.filterMap_eq_map', List.map_map]; rfl
  rw [fm]
  refine eY (by rw [List.length_map, List.length_map]; exact leA (by assumption) rfl) ?_
  repeat trivial
  refine aU (i := 2) (by simp) rfl ?_
  repeat trivial
  refine dT ?_
  repeat trivial
  refine aU (i := 3) (by simp) rfl ?_
  repeat trivial
  refine aU (i := 4) (by simp) rfl ?_
  repeat trivial
 have fm : B.filterMap (fun b => some (dy rh.number (b.sw 72 73 b.e))) = B2.map (dy rh'.number) := by
  rw [List.filterMap_eq_map', h43, <- nT Br3.all]
 rw [fm]
 refine eY (by rw [List.length_map]; exact leA (by assumption) rfl) ?_
 repeat trivial
 refine vV ?_
 rw [uz]
 repeat trivial
 refine bT (i := 0) (R3.lstAt hsub4) (by simp) rfl ?_
 repeat trivial
 refine vY (hk := c.p) (part := (rq1 rq ke B).part) (rh := rh') (cs := cs4) B2 R3 hsc4 rfl Br3.regq C4 (by rw [cl4, cl']; exact aK _ 0 0 0 .x (.n 5) (.a .x (.n 1)) (.n 9) rfl cl) h41 ?_ (fun b hb => ?_) (by exact leA (by assumption) rfl) (by decide) D.cok (fun H' K' => rfl) fun H4 R4 K4 => ?_
 ·rw [h45, rh5]
  exact P.lev
 ·obtain ⟨_, _, _, _, h2⟩ := Br3.all.mem_right b hb
  exact ⟨h2, List.mem_append_right _ (List.mem_map.mpr ⟨b, hb, rfl⟩)⟩
 repeat trivial
 exact q H4
theorem xo (ns : List Int) (hns : ns.length <= 63) : W (fn (d + 9) "law" [.fz (ns.map .int)]) H0 fun v _ => v = .bool true := by
 refine vT ns hns fun g H ρ c L R S E => ?_
 refine vS R S E fun g0 g H rows i ρ way R B F I hl hw hwl E => ?_
 refine vR R B F I hl hw hwl E fun g1 g2 g' H' ρ' kq rq kpar kt ke B R D P tp A Br E => ?_
 exact vQ R D P tp A Br E fun _ => rfl
theorem gX : uk := by
 intro ns hns
 obtain ⟨v, H', e, rfl⟩ := xo (d := 3) ns hns
 have : ∃ g, (cxD P0 12).tab "law" = some g /\ fn 12 "law" = g := by
  cases q : (cxD P0 12).tab "law" with
  | none =>
   have e : (match (cxD P0 12).tab "law" with
    | some g => g
    | none => fun _ => ai) [.fz (ns.map .int)] H0 = some (.bool true, H') := e
   rw [q] at e
   cases e
  | some g => exact ⟨g, rfl, by unfold fn; rw [q]⟩
 obtain ⟨g, h1, h2⟩ := this
 exact ⟨g, H', h1, by rw [<- h2]; exact e⟩
theorem u5 : PySem.Challenge.rw_rg0030_01.Holds := jD gX
end
end Mine

theorem PySem.Challenge.cw_rg0030_01_holds : PySem.Challenge.rw_rg0030_01.Holds :=
 Mine.u5
