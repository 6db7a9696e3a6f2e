import PyProof.Rows.All
import Wide.All
import OpenK.AllK
import Wide.FinOn
import KE.KStateDown
import HandS.ForMost
import HandS.Lambda
import HandS.Zip
import HandS.IsInst
import HandS.Codes
import HandS.TupAny
import HandS.TupMul
import HandS.TupLe
import HandS.Style
import HandS.Deep
import HandS.Strs
import HandS.CallSlots
import HandS.ExcCtx
import HandS.HotCalls
import PyProof.Rows.IntBool
import KE.DataCmp
import KE.SortData
import KE.DataMinMax
import HandS.Sort
import PyProof.Rows.SortShellAny
import HandS.Iter
import HandS.Dict
import HandS.Remove
import KE.KIndexOf
import HandS.Text
import HandS.SetFor
import PyProof.FactsLen
import PyProof.Rows.FactsN_isinstance
import PyProof.Rows.SeqCalls
import PyProof.Rows.FactsT3
import PyProof.ExcBaseAll.ValueError
import HandS.Defaults
import HandS.HeadHook4
import HandS.HeadWalk
import HandS.Head2
import HandS.Words
import HandS.Hot
import HandS.ExcIs
import PyProof.Rows.TupIter
import HandS.EndTab
import HandS.Head0
import HandS.Head1
import PySem.Challenge.RW_anyalphabet_k13_signs_that_can_be_exchan
set_option Elab.async false
set_option linter.all false
set_option maxRecDepth 100000
set_option maxHeartbeats 1000000
namespace G
open PySem PySem.Spec PyProof.Rows L2
inductive PV where
  | non | bl (b : Bool) | int (i : Int) | str (s : List Nat) | tup (xs : List PV) | lst (xs : List PV) | ptr (n : Nat) | scr (ns : List Int) | exn (a : Nat)
  deriving Inhabited
/-- a mutable thing -/
inductive MO where
  | lst (xs : List PV)
  /-- a dict by texts -/
  | dis (kvs : List (List Nat × PV))
abbrev Store := List MO
abbrev SS (l : List Nat) : Str := ⟨l.toArray⟩
def okS (l : List Nat) : Bool := (l.all fun c => decide (c < 1114112)) && decide (l.length ≤ 16777216)
/-- what a value may lean on -/
def isRp : HO → Bool
  | .lst _ | .tup _ | .frz _ _ | .ext _ => true
  | _ => false
/-- what stands still: every tracked thing of these kinds, out of the mutable ones -/
def isImm : HO → Bool
  | .lst _ | .tup _ | .frz _ _ | .ext _ | .dK _ => true
  | _ => false
theorem isImm_rp {o : HO} (h : isRp o = true) : isImm o = true := by cases o <;> first | rfl | cases h
/-- l: the mutable lists by number; z: lists that a comprehension is making -/
structure Ms where
  l : List Addr
  z : List Addr
instance : Membership Addr Ms := ⟨fun M a => a ∈ M.l ∨ a ∈ M.z⟩
def Ms.add (M : Ms) (a : Addr) : Ms := ⟨M.l ++ [a], M.z⟩
def Ms.enter (M : Ms) (D : Addr) : Ms := ⟨M.l, D :: M.z⟩
/-- a list, a tuple that nobody changes -/
def LstAt (M : Ms) (H : Hp) (a : Addr) (vs : List V) : Prop := H a = some (.lst vs) ∧ a ∉ M
/-- (the object is told, for a tuple's methods: it has no dict) -/
def TupAt (M : Ms) (H : Hp) (a : Addr) (vs : List V) : Prop := (∃ o, H a = some (.frz o (.tup vs)) ∧ o.dict = none ∧ o.cls = .type "tuple") ∧ a ∉ M
/-- the law's script -/
def ScrAt (K : PySem.W.Frag) (M : Ms) (H : Hp) (a : Addr) (vs : List V) : Prop :=
  (Rd H a (.lst vs) ∧ a ∉ M) ∨
    ∃ (o : Obj) (its : Array Value) (n : Nat), K.lookup a = some o ∧ o.cls = .type "list" ∧ o.dict = none ∧ o.data = .seq its n ∧ its.size ≤ sizeLine ∧ Vals vs its.toList
theorem LstAt.sq {K M H a vs} (h : LstAt M H a vs) : SqL K H a vs := .of h.1
theorem TupAt.sq {K M H a vs} (h : TupAt M H a vs) : SqT K H a vs := let ⟨⟨o, e, _⟩, _⟩ := h; .inl (.inr ⟨o, e⟩)
abbrev tupO (its : List Value) : Obj := { cls := .type "tuple", data := .seq its.toArray }
theorem ScrAt.sq {K M H a vs} (h : ScrAt K M H a vs) : SqL K H a vs := h.elim (fun x => .inl x.1) .inr
mutual
def Rep (K : PySem.W.Frag) (M : Ms) (H : Hp) : PV → V → Prop
  | .non, v => v = .non
  | .bl b, v => v = .bl b
  | .int i, v => v = .int i
  | .str s, v => v = .str (SS s) ∧ okS s = true
  | .tup xs, v => ∃ a vs, v = .ref a ∧ TupAt M H a vs ∧ RepL K M H xs vs
  | .lst xs, v => ∃ a vs, v = .ref a ∧ LstAt M H a vs ∧ RepL K M H xs vs
  | .ptr n, v => ∃ a, v = .ref a ∧ M.l[n]? = some a
  | .scr ns, v => ∃ a, v = .ref a ∧ ScrAt K M H a (ns.map V.int)
  | .exn a, v => v = .ref a
def RepL (K : PySem.W.Frag) (M : Ms) (H : Hp) : List PV → List V → Prop
  | [], vs => vs = []
  | x :: xs, vs => ∃ w ws, vs = w :: ws ∧ Rep K M H x w ∧ RepL K M H xs ws
end
/-- nothing that stands still is there -/
def Dead (H : Hp) (a : Addr) : Prop := ∀ o, H a = some o → isImm o = false
theorem Dead.of_none {H : Hp} {a : Addr} (h : H a = none) : Dead H a := fun o e => by rw [h] at e; cases e
/-- from (M, H) on to (M', H'): what a value leaned on stands -/
structure Kp (M : Ms) (H : Hp) (M' : Ms) (H' : Hp) : Prop where
  imm : ∀ (a : Addr) (o : HO), a ∉ M → H a = some o → isRp o = true → H' a = some o
  out : ∀ (a : Addr) (o : HO), a ∉ M → H a = some o → isRp o = true → a ∉ M'
  at_ : ∀ (n : Nat) (a : Addr), M.l[n]? = some a → M'.l[n]? = some a
theorem Kp.refl (M : Ms) (H : Hp) : Kp M H M H := ⟨fun _ _ _ h _ => h, fun _ _ h _ _ => h, fun _ _ h => h⟩
theorem Kp.trans {M M1 M2 : Ms} {H H1 H2 : Hp} (a : Kp M H M1 H1) (b : Kp M1 H1 M2 H2) : Kp M H M2 H2 where
  imm := fun c o hc ho h => b.imm c o (a.out c o hc ho h) (a.imm c o hc ho h) h
  out := fun c o hc ho h => b.out c o (a.out c o hc ho h) (a.imm c o hc ho h) h
  at_ := fun n c h => b.at_ n c (a.at_ n c h)
/-- and more: what a piece of code does -/
structure Ext (M : Ms) (H : Hp) (M' : Ms) (H' : Hp) : Prop where
  pre : ∃ more, M'.l = M.l ++ more
  zz : M'.z = M.z
  new : ∀ a, a ∈ M' → a ∉ M → Dead H a
  imm : ∀ a o, a ∉ M → H a = some o → isImm o = true → H' a = some o
  zk : ∀ a, a ∈ M.z → H' a = H a
theorem Ext.dead {M M' : Ms} {H H' : Hp} (e : Ext M H M' H') {a : Addr} (h : a ∉ M) (d : Dead H' a) : Dead H a := fun o ho => by
  cases hi : isImm o with
  | false => rfl
  | true => rw [← hi]; exact d o (e.imm a o h ho hi)
theorem Ext.refl (M : Ms) (H : Hp) : Ext M H M H := ⟨⟨[], by simp⟩, rfl, fun _ h h' => absurd h h', fun _ _ _ h _ => h, fun _ _ => rfl⟩
theorem Ext.out {M M' : Ms} {H H' : Hp} (e : Ext M H M' H') {a : Addr} {o : HO} (h : a ∉ M) (ho : H a = some o) (hi : isImm o = true) : a ∉ M' := fun hm => by
  have := e.new a hm h o ho
  rw [hi] at this; cases this
theorem Ext.trans {M M1 M2 : Ms} {H H1 H2 : Hp} (a : Ext M H M1 H1) (b : Ext M1 H1 M2 H2) : Ext M H M2 H2 where
  pre := by
    obtain ⟨m1, e1⟩ := a.pre
    obtain ⟨m2, e2⟩ := b.pre
    exact ⟨m1 ++ m2, by rw [e2, e1, List.append_assoc]⟩
  zz := b.zz.trans a.zz
  new := fun c hc hn => by
    by_cases h1 : c ∈ M1
    · exact a.new c h1 hn
    · exact a.dead hn (b.new c hc h1)
  imm := fun c o hc ho hi => b.imm c o (a.out hc ho hi) (a.imm c o hc ho hi) hi
  zk := fun c h => (b.zk c (by rw [a.zz]; exact h)).trans (a.zk c h)
theorem Ext.at_ {M M' : Ms} {H H' : Hp} (e : Ext M H M' H') {n : Nat} {a : Addr} (h : M.l[n]? = some a) : M'.l[n]? = some a := by
  obtain ⟨m, e1⟩ := e.pre
  rw [e1, List.getElem?_append_left (List.getElem?_eq_some_iff.mp h).1]; exact h
theorem Ext.kpp {M M' : Ms} {H H' : Hp} (e : Ext M H M' H') : Kp M H M' H' := ⟨fun a o h ho hi => e.imm a o h ho (isImm_rp hi), fun _ _ h ho hi => e.out h ho (isImm_rp hi), fun _ _ h => e.at_ h⟩
end G
set_option maxHeartbeats 1000000
namespace G
open PySem PySem.Spec PyProof.Rows L2
inductive Ct where
  | non | bl (b : Bool) | int (i : Int) | str (s : List Nat)
  deriving DecidableEq, Repr, Inhabited
def Ct.pv : Ct → PV
  | .non => .non | .bl b => .bl b | .int i => .int i | .str s => .str s
/-- two-place operations -/
inductive B2 where
  | add | sub | mul | fdiv | mod | pow | eq | ne | lt | le | gt | ge | is | isnot | inn | notin | idx
  deriving DecidableEq, Repr, Inhabited
/-- kinds for isinstance -/
inductive Kd where
  | int | bool | str | tuple | list
  deriving DecidableEq, Repr, Inhabited
/-- built-in calls by values -/
inductive Pr where
  | neg | isi (k : Kd) | len | int | abs | max2 | min2 | max1 | str | sum | list | tuple | sorted | sortset | index | split | join | upper | dget | append | remove
  deriving DecidableEq, Repr, Inhabited
inductive Ex where
  | cst (c : Ct)
  | var (i : Nat)
  | not (a : Ex)
  | and (a b : Ex)
  | or (a b : Ex)
  | ite (c a b : Ex)
  | bin (o : B2) (a b : Ex)
  | chn (o p : B2) (a b c : Ex)
  | tup (es : Ex)
  | lst (es : Ex)
  | mut (e : Ex)
  | pri (p : Pr) (es : Ex)
  | mth (p : Pr) (o es : Ex)
  | cal (g : Nat) (es : Ex)
  | lam (b : Ex)
  /-- a dict of two texts -/
  | dsp (a b c d : Ex)
  | slc (a : Ex) (l u : Ex) (back : Bool)
  | com (elt : Ex) (tg : List Nat) (it : Ex) (cnd : Ex) (own : List Nat)
  | co2 (elt : Ex) (tg : List Nat) (it : Ex) (tg1 : List Nat) (it1 : Ex) (cnd1 : Ex) (own1 own : List Nat)
  | nil
  | cons (e es : Ex)
  -- what is walked: the items
  | irng (a : Ex)
  | iseq (a : Ex)
  | izip (a b : Ex)
  | ienu (a : Ex)
  deriving DecidableEq, Repr, Inhabited
inductive St where
  | nop
  | seq (a b : St)
  | asg (i : Nat) (e : Ex)
  | par (is : List Nat) (es : Ex)
  | unp (is : List Nat) (e : Ex)
  | sti (o i e : Ex)
  | st2 (o i o2 i2 e : Ex)
  | exp (e : Ex)
  | ret (e : Ex)
  | ifs (c : Ex) (t e : St)
  | whl (c : Ex) (b : St)
  | for (tg : List Nat) (it : Ex) (b : St)
  /-- over a mutable list, as it stands at each turn -/
  | fol (tg : List Nat) (e : Ex) (b : St)
  | rse (c : Nat)
  deriving DecidableEq, Repr, Inhabited
inductive R (α : Type) where
  | ok (a : α) (S : Store)
  | exc (c : Nat) (v : PV) (S : Store)
  | bad
  deriving Inhabited
def R.bind {α β : Type} (r : R α) (k : α → Store → R β) : R β := match r with
  | .ok a S => k a S
  | .exc c v S => .exc c v S
  | .bad => .bad
abbrev Env := List (Option PV)
abbrev Orc := Nat → List PV → Store → R PV
def SL : Nat := 16777216
mutual
def pveq : PV → PV → Bool
  | .non, .non => true
  | .bl a, .bl b => a == b
  | .bl a, .int j => (if a then 1 else 0) == j
  | .int i, .bl b => i == (if b then 1 else 0)
  | .int i, .int j => i == j
  | .str x, .str y => x == y
  | .lst xs, .lst ys => pveqL xs ys
  | .tup xs, .tup ys => pveqL xs ys
  | _, _ => false
def pveqL : List PV → List PV → Bool
  | [], [] => true
  | x :: xs, y :: ys => pveq x y && pveqL xs ys
  | _, _ => false
end
mutual
/-- alike, place by place -/
def pvalk : PV → PV → Bool
  | .non, .non => true
  | .bl _, .bl _ => true
  | .int _, .int _ => true
  | .str _, .str _ => true
  | .lst xs, .lst ys => pvalkL xs ys
  | .tup xs, .tup ys => pvalkL xs ys
  | _, _ => false
def pvalkL : List PV → List PV → Bool
  | x :: xs, y :: ys => pvalk x y && pvalkL xs ys
  | [], _ => true
  | _ :: _, [] => true
end
mutual
/-- x < y, for alike ones -/
def pvlt : PV → PV → Bool
  | .bl a, .bl b => !a && b
  | .int i, .int j => decide (i < j)
  | .str a, .str b => decide (a < b)
  | .lst xs, .lst ys => pvltL xs ys
  | .tup xs, .tup ys => pvltL xs ys
  | _, _ => false
def pvltL : List PV → List PV → Bool
  | x :: xs, y :: ys => if pveq x y then pvltL xs ys else pvlt x y
  | [], _ :: _ => true
  | _, [] => false
end
mutual
/-- data without pointers, its depth -/
def dep : PV → Option Nat
  | .tup xs => (depL xs).map (· + 1)
  | .lst xs => (depL xs).map (· + 1)
  | .ptr _ => none
  | .scr _ => none
  | .exn _ => none
  | _ => some 0
def depL : List PV → Option Nat
  | [] => some 0
  | x :: xs => match dep x, depL xs with
    | some a, some b => some (max a b)
    | _, _ => none
end
/-- a mutable list read as it stands -/
def res (S : Store) : PV → PV
  | .ptr n => match S[n]? with
    | some (.lst xs) => .lst xs
    | _ => .ptr n
  | v => v
/-- may == be asked -/
def eqOk (a b : PV) : Bool := match dep a, dep b with
  | some i, some j => decide (min i j ≤ 40)
  | _, _ => false
def rok (v : PV) (S : Store) : R PV := .ok v S
def asB (v : PV) (S : Store) : R Bool := match v with
  | .bl b => .ok b S
  | _ => .bad
/-- truth: of bools and numbers -/
def asT (v : PV) (S : Store) : R Bool := match v with
  | .bl b => .ok b S
  | .int i => .ok (i != 0) S
  | _ => .bad
def asI (v : PV) (S : Store) : R (Option Int) := match v with
  | .int i => .ok (some i) S
  | _ => .bad
def isTup : PV → Bool
  | .tup _ => true | _ => false
def repL {α : Type} (k : Nat) (xs : List α) : List α := (List.replicate k xs).flatten
def b2 (o : B2) (x y : PV) (S : Store) : R PV := match o with
  | .add => match x, y with
    | .int i, .int j => rok (.int (i + j)) S
    | .bl a, .int j => rok (.int ((if a = true then (1 : Int) else 0) + j)) S
    | .str a, .str b => if a.length + b.length ≤ SL then rok (.str (a ++ b)) S else .bad
    | .tup a, .tup b => if a.length + b.length ≤ SL then rok (.tup (a ++ b)) S else .bad
    | x, y => match res S x, res S y with
      | .lst a, .lst b => if a.length + b.length ≤ SL then rok (.lst (a ++ b)) S else .bad
      | _, _ => .bad
  | .sub => match x, y with
    | .int i, .int j => rok (.int (i - j)) S
    | .bl a, .int j => rok (.int ((if a = true then (1 : Int) else 0) - j)) S
    | _, _ => .bad
  | .mul => match x, y with
    | .int i, .int j => if (-18446744073709551616 < i ∧ i < 18446744073709551616) ∨ (-18446744073709551616 < j ∧ j < 18446744073709551616) then rok (.int (i * j)) S else .bad
    | .str a, .int k => if a ≠ [] ∧ 2 ≤ k ∧ k ≤ 1000 ∧ a.length ≤ 1000 then rok (.str (repL k.toNat a)) S else .bad
    | .lst a, .int k => if 0 ≤ k ∧ k ≤ 1000 ∧ a.length ≤ 1000 then rok (.lst (repL k.toNat a)) S else .bad
    | .tup a, .int k => if a.length ≠ 0 ∧ 0 ≤ k ∧ k ≤ 1000 ∧ a.length ≤ 1000 then rok (.tup (repL k.toNat a)) S else .bad
    | _, _ => .bad
  | .fdiv => match x, y with
    | .int i, .int j => if 0 < j ∧ j < 1073741824 then rok (.int (i / j)) S else .bad
    | _, _ => .bad
  | .mod => match x, y with
    | .int i, .int j => if 0 < j then rok (.int (i % j)) S else .bad
    | _, _ => .bad
  | .pow => match x, y with
    | .int i, .int j => if 0 ≤ j ∧ j ≤ 1000 ∧ i.natAbs < 1000000 then rok (.int (i ^ j.toNat)) S else .bad
    | _, _ => .bad
  | .eq => if eqOk (res S x) (res S y) then rok (.bl (pveq (res S x) (res S y))) S else .bad
  | .ne => if eqOk (res S x) (res S y) then rok (.bl (!pveq (res S x) (res S y))) S else .bad
  | .lt => match x, y with
    | .int i, .int j => rok (.bl (decide (i < j))) S
    | .str i, .str j => rok (.bl (decide (i < j))) S
    | .tup xs, .tup ys => if eqOk (.tup xs) (.tup ys) && pvalkL xs ys then rok (.bl (pvltL xs ys)) S else .bad
    | .lst xs, .lst ys => if eqOk (.lst xs) (.lst ys) && pvalkL xs ys then rok (.bl (pvltL xs ys)) S else .bad
    | _, _ => .bad
  | .le => match x, y with
    | .int i, .int j => rok (.bl (decide (i ≤ j))) S
    | _, _ => .bad
  | .gt => match x, y with
    | .int i, .int j => rok (.bl (decide (j < i))) S
    | _, _ => .bad
  | .ge => match x, y with
    | .int i, .int j => rok (.bl (decide (j ≤ i))) S
    | .str i, .str j => rok (.bl (!decide (i < j))) S
    | _, _ => .bad
  | .is => match x, y with
    | x, .non => match x with
      | .non => rok (.bl true) S
      | _ => rok (.bl false) S
    | .bl a, .bl b => rok (.bl (a == b)) S
    | .non, .bl _ => rok (.bl false) S
    | .tup _, .bl _ => rok (.bl false) S
    | _, _ => .bad
  | .isnot => match x, y with
    | x, .non => match x with
      | .non => rok (.bl false) S
      | _ => rok (.bl true) S
    | .bl a, .bl b => rok (.bl (!(a == b))) S
    | .non, .bl _ => rok (.bl true) S
    | .tup _, .bl _ => rok (.bl true) S
    | _, _ => .bad
  | .inn => match x, res S y with
    | .str a, .str b => match a with
      | [c] => rok (.bl (b.contains c)) S
      | _ => .bad
    | x, .tup ys => if eqOk (.tup ys) x then rok (.bl (ys.any (fun y => pveq y x))) S else .bad
    | x, .lst ys => if eqOk (.lst ys) x then rok (.bl (ys.any (fun y => pveq y x))) S else .bad
    | _, _ => .bad
  | .notin => match x, res S y with
    | .str a, .str b => match a with
      | [c] => rok (.bl (!b.contains c)) S
      | _ => .bad
    | x, .tup ys => if eqOk (.tup ys) x then rok (.bl (!ys.any (fun y => pveq y x))) S else .bad
    | x, .lst ys => if eqOk (.lst ys) x then rok (.bl (!ys.any (fun y => pveq y x))) S else .bad
    | _, _ => .bad
  | .idx => match res S x, y with
    | .tup xs, .int i => match atI xs i with
      | some v => rok v S
      | none => .bad
    | .lst xs, .int i => match atI xs i with
      | some v => rok v S
      | none => .bad
    | .str xs, .int i => match atI xs i with
      | some v => rok (.str [v]) S
      | none => .bad
    | .scr xs, .int i => match atI xs i with
      | some v => rok (.int v) S
      | none => .bad
    | _, _ => .bad
/-- x[lo:hi] -/
def cutL {α : Type} (xs : List α) (lo hi : Option Int) : List α := (xs.drop (HT.sIx xs.length 0 lo)).take (HT.sIx xs.length xs.length hi - HT.sIx xs.length 0 lo)
/-- x[lo:hi:-1], lo and hi not negative where they are told -/
def cutB {α : Type} (xs : List α) (lo hi : Option Int) : List α :=
  let up := match lo with | none => xs | some i => xs.take (i.toNat + 1)
  match hi with | none => up.reverse | some j => (up.drop (j.toNat + 1)).reverse
def nonneg : Option Int → Bool
  | none => true
  | some i => decide (0 ≤ i)
def slc (back : Bool) (x : PV) (lo hi : Option Int) (S : Store) : R PV :=
  if back then (if nonneg lo && nonneg hi then (match res S x with
    | .tup xs => rok (.tup (cutB xs lo hi)) S
    | _ => .bad) else .bad)
  else match res S x with
    | .tup xs => rok (.tup (cutL xs lo hi)) S
    | .lst xs => rok (.lst (cutL xs lo hi)) S
    | .str xs => rok (.str (cutL xs lo hi)) S
    | _ => .bad
def isK (k : Kd) : PV → Bool
  | .bl _ => k == .bool || k == .int
  | .int _ => k == .int
  | .str _ => k == .str
  | .tup _ => k == .tuple
  | .lst _ => k == .list
  | .ptr _ => k == .list
  | .scr _ => k == .list
  | .exn _ => false
  | .non => false
def allI : List PV → Option (List Int)
  | [] => some []
  | .int i :: r => (allI r).map (i :: ·)
  | _ => none
def allS : List PV → Option (List (List Nat))
  | [] => some []
  | .str i :: r => (allS r).map (i :: ·)
  | _ => none
def insS (x : List Nat) : List (List Nat) → List (List Nat)
  | [] => [x]
  | y :: r => if x < y then x :: y :: r else y :: insS x r
/-- the texts in order (equal ones are the same) -/
def sortS : List (List Nat) → List (List Nat)
  | [] => []
  | x :: r => insS x (sortS r)
def insI (x : Int) : List Int → List Int
  | [] => [x]
  | y :: r => if x < y then x :: y :: r else if x = y then y :: r else y :: insI x r
/-- the numbers in order, each once -/
def sortI : List Int → List Int
  | [] => []
  | x :: r => insI x (sortI r)
def insL (x : Int) : List Int → List Int
  | [] => [x]
  | y :: r => if y < x then y :: insL x r else x :: y :: r
/-- the numbers in order, equal ones too -/
def sortL : List Int → List Int
  | [] => []
  | x :: r => insL x (sortL r)
/-- in order by <, equal ones as they stood -/
def pins (x : PV) : List PV → List PV
  | [] => [x]
  | y :: r => if pvlt y x then y :: pins x r else x :: y :: r
def psort : List PV → List PV
  | [] => []
  | x :: r => pins x (psort r)
def tupNe : PV → Bool
  | .tup (_ :: _) => true
  | _ => false
def noTupN : PV → Bool
  | .tup _ => false
  | .non => false
  | _ => true
/-- may these be sorted -/
def sortOk (xs : List PV) : Bool := decide (xs.length ≤ 1) || (xs.all fun x => xs.all fun y => pvalk x y) && (xs.all fun x => match dep x with | some d => decide (d ≤ 20) | none => false) && (xs.all tupNe || xs.all noTupN) && decide (xs.length ≤ 100000)
/-- a whole number, written -/
def decS (i : Int) : List Nat := (Str.ofString (toString i)).cps.toList
def upc (c : Nat) : Nat := if 97 ≤ c ∧ c ≤ 122 then c - 32 else c
def pri (p : Pr) (vs : List PV) (S : Store) : R PV := match p with
  | .neg => match vs with
    | [.int i] => rok (.int (-i)) S
    | _ => .bad
  | .isi k => match vs with
    | [.exn _] => .bad
    | [.ptr n] => match S[n]? with
      | some (.lst _) => rok (.bl (isK k (.ptr n))) S
      | _ => .bad
    | [v] => rok (.bl (isK k v)) S
    | _ => .bad
  | .len => match vs with
    | [v] => match res S v with
      | .tup xs => rok (.int xs.length) S
      | .lst xs => rok (.int xs.length) S
      | .str xs => rok (.int xs.length) S
      | .scr xs => rok (.int xs.length) S
      | _ => .bad
    | _ => .bad
  | .int => match vs with
    | [.int i] => rok (.int i) S
    | [.bl k] => rok (.int (if k then 1 else 0)) S
    | [.str [c]] => if 48 ≤ c ∧ c ≤ 57 then rok (.int ((c - 48 : Nat) : Int)) S else .bad
    | _ => .bad
  | .str => match vs with
    | [.int i] => if 0 ≤ i ∧ i ≤ 9 then rok (.str [48 + i.toNat]) S else if okS (decS i) = true ∧ i.natAbs.log2 < 1920 then rok (.str (decS i)) S else .bad
    | [.bl b] => rok (.str (if b = true then [84, 114, 117, 101] else [70, 97, 108, 115, 101])) S
    | _ => .bad
  | .sum => match vs with
    | [v] => match res S v with
      | .lst xs => match allI xs with
        | some is => rok (.int is.sum) S
        | none => .bad
      | _ => .bad
    | _ => .bad
  | .abs => match vs with
    | [.int i] => rok (.int (if i < 0 then -i else i)) S
    | _ => .bad
  | .max2 => match vs with
    | [.int i, .int j] => rok (.int (if j > i then j else i)) S
    | _ => .bad
  | .max1 => match vs with
    | [v] => match res S v with
      | .lst xs => match allI xs with
        | some (i :: r) => rok (.int (r.foldl max i)) S
        | _ => .bad
      | _ => .bad
    | _ => .bad
  | .sortset => match vs with
    | [.tup xs] => match allI xs with
      | some is => if is.length < 60 then rok (.lst ((sortI is).map .int)) S else .bad
      | none => .bad
    | _ => .bad
  | .min2 => match vs with
    | [.int i, .int j] => rok (.int (if j < i then j else i)) S
    | _ => .bad
  | .list => match vs with
    | [v] => match res S v with
      | .tup xs => rok (.lst xs) S
      | .lst xs => rok (.lst xs) S
      | .str xs => if xs.length ≤ 8 then rok (.lst (xs.map fun c => .str [c])) S else .bad
      | _ => .bad
    | _ => .bad
  | .tuple => match vs with
    | [v] => match res S v with
      | .tup xs => rok (.tup xs) S
      | .lst xs => rok (.tup xs) S
      | _ => .bad
    | _ => .bad
  | .sorted => match vs with
    | [v] => match res S v with
      | .tup xs => match allS xs with
        | some ss => if ss.length < 64 then rok (.lst ((sortS ss).map .str)) S else .bad
        | none => match allI xs with
          | some is => if is.length ≤ 1000 then rok (.lst ((sortL is).map .int)) S else .bad
          | none => .bad
      | .lst xs => match allS xs with
        | some ss => if ss.length < 64 then rok (.lst ((sortS ss).map .str)) S else .bad
        | none => if sortOk xs then rok (.lst (psort xs)) S else .bad
      | _ => .bad
    | _ => .bad
  | .index => match vs with
    | [.tup xs, .str z] => match allS xs with
      | some ss => if z ∈ ss then rok (.int (ss.idxOf z)) S else .bad
      | none => .bad
    | _ => .bad
  | .split => match vs with
    | [.str a, .str b] => if b ≠ [] ∧ b.all (· < 256) = true ∧ a.length + 2 ≤ SL then rok (.lst ((TL.spl b 0 [] a).map .str)) S else .bad
    | _ => .bad
  | .join => match vs with
    | [.str a, v] => match res S v with
      | .lst xs => match allS xs with
        | some ss => if (ss.map (·.length)).sum + ss.length * a.length ≤ SL then rok (.str (TL.joinL a ss)) S else .bad
        | none => .bad
      | .tup xs => match allS xs with
        | some ss => if (ss.map (·.length)).sum + ss.length * a.length ≤ SL then rok (.str (TL.joinL a ss)) S else .bad
        | none => .bad
      | _ => .bad
    | _ => .bad
  | .append => match vs with
    | [.ptr n, v] => match S[n]? with
      | some (.lst xs) => if xs.length < 1000000 then rok .non (S.set n (.lst (xs ++ [v]))) else .bad
      | _ => .bad
    | _ => .bad
  | .remove => match vs with
    | [.ptr n, .str z] => match S[n]? with
      | some (.lst xs) => match allS xs with
        | some ss => if z ∈ ss then rok .non (S.set n (.lst ((ss.erase z).map .str))) else .bad
        | none => .bad
      | _ => .bad
    | _ => .bad
  | .dget => match vs with
    | [.ptr n, .str a, d] => match S[n]? with
      | some (.dis kvs) => rok ((kvs.lookup a).getD d) S
      | _ => .bad
    | _ => .bad
  | .upper => match vs with
    | [.str a] => if a.all (· < 128) = true ∧ a.length ≤ 1000 then rok (.str (a.map upc)) S else .bad
    | _ => .bad
/-- a dict of two pairs -/
def dspOf (k : PV) (x : PV) (l : PV) (y : PV) : Option (List (List Nat × PV)) := match k, l with
  | .str a, .str b => some (if a = b then [(a, y)] else [(a, x), (b, y)])
  | _, _ => none
/-- what a method is asked of -/
def isLst (S : Store) (n : Nat) : Bool := match S[n]? with
  | some (.lst _) => true
  | _ => false
def isDis (S : Store) (n : Nat) : Bool := match S[n]? with
  | some (.dis _) => true
  | _ => false
def recv (p : Pr) (S : Store) (x : PV) : Bool := match p, x with
  | .index, .tup _ => true
  | .split, .str _ => true
  | .join, .str _ => true
  | .upper, .str _ => true
  | .dget, .ptr n => isDis S n
  | .append, .ptr n => isLst S n
  | .remove, .ptr n => isLst S n
  | _, _ => false
/-- the names of the error's class, as the laws write them -/
def excWord (c : Nat) : List Nat := ((["manner value", "alphabet value", "word value", "words value", "facts value", "script value", "plan value", "place value", "text value", "impossible value", "unlike value", "undo value", "many value"] : List String)[c]?.getD "").toList.map Char.toNat
def setAll : List Nat → List PV → Env → Env
  | i :: is, x :: xs, ρ => setAll is xs (ρ.set i (some x))
  | _, _, ρ => ρ
def tgSet (tg : List Nat) (x : PV) (ρ : Env) : Option Env := match tg with
  | [i] => some (ρ.set i (some x))
  | is => match x with
    | .tup xs => if xs.length = is.length then some (setAll is xs ρ) else none
    | _ => none
def wipeE (ρ : Env) : List Nat → Env
  | [] => ρ
  | v :: vs => (wipeE ρ vs).set v none
mutual
/-- the very same -/
def pvS : PV → PV → Bool
  | .non, .non => true
  | .bl a, .bl b => a == b
  | .int a, .int b => a == b
  | .str a, .str b => a == b
  | .tup a, .tup b => pvSL a b
  | .lst a, .lst b => pvSL a b
  | .ptr a, .ptr b => a == b
  | .scr a, .scr b => a == b
  | .exn a, .exn b => a == b
  | _, _ => false
def pvSL : List PV → List PV → Bool
  | [], [] => true
  | x :: xs, y :: ys => pvS x y && pvSL xs ys
  | _, _ => false
end
/-- what is walked: the items; of a mutable list: which one -/
structure Wk where
  xs : List PV
  g : Option (Nat × List PV)
/-- the list that is walked stands as it stood -/
def gk : Option (Nat × List PV) → Store → Bool
  | none, _ => true
  | some (m, xs), S => match S[m]? with
    | some (.lst ys) => pvSL ys xs
    | _ => false
/-- a comprehension's items, one by one; ρ: the block's names -/
def lcGo (tst elt : Env → Store → R PV) (tg : List Nat) (ρ : Env) (g : Option (Nat × List PV)) : List PV → Store → R (List PV)
  | [], S => if gk g S then .ok [] S else .bad
  | x :: xs, S => if gk g S then (match tgSet tg x ρ with
    | none => .bad
    | some ρ1 => match (tst ρ1 S).bind asB with
      | .ok true S1 => match elt ρ1 S1 with
        | .ok v S2 => match lcGo tst elt tg ρ g xs S2 with
          | .ok vs S3 => .ok (v :: vs) S3
          | _ => .bad
        | _ => .bad
      | .ok false S1 => lcGo tst elt tg ρ g xs S1
      | _ => .bad) else .bad
/-- two clauses: the inner one is walked anew at each turn -/
def lc2Go (inner : Env → Store → R (List PV)) (tg : List Nat) (ρ : Env) (g : Option (Nat × List PV)) : List PV → Store → R (List PV)
  | [], S => if gk g S then .ok [] S else .bad
  | x :: xs, S => if gk g S then (match tgSet tg x ρ with
    | none => .bad
    | some ρ1 => match inner ρ1 S with
      | .ok vs S1 => match lc2Go inner tg ρ g xs S1 with
        | .ok ws S2 => .ok (vs ++ ws) S2
        | _ => .bad
      | _ => .bad) else .bad
def rangeP (n : Int) : List PV := (List.range n.toNat).map fun i => PV.int (i : Nat)
def zipP : List PV → List PV → List PV
  | x :: xs, y :: ys => .tup [x, y] :: zipP xs ys
  | _, _ => []
def enuP : Nat → List PV → List PV
  | _, [] => []
  | i, x :: xs => .tup [.int (i : Nat), x] :: enuP (i + 1) xs
def badO : Orc := fun _ _ _ => .bad
mutual
def ev : Ex → Orc → Orc → Env → Store → R PV
  | .cst c, _, _, _, S => .ok c.pv S
  | .var i, _, _, ρ, S => match ρ[i]? with
    | some (some v) => .ok v S
    | _ => .bad
  | .not a, F, F2, ρ, S => ((ev a F F2 ρ S).bind asT).bind fun d S1 => .ok (.bl (!d)) S1
  | .and a b, F, F2, ρ, S => ((ev a F F2 ρ S).bind asB).bind fun d S1 => match d with
    | true => ev b F F2 ρ S1
    | false => .ok (.bl false) S1
  | .or a b, F, F2, ρ, S => ((ev a F F2 ρ S).bind asB).bind fun d S1 => match d with
    | true => .ok (.bl true) S1
    | false => ev b F F2 ρ S1
  | .ite c a b, F, F2, ρ, S => ((ev c F F2 ρ S).bind asB).bind fun d S1 => match d with
    | true => ev a F F2 ρ S1
    | false => ev b F F2 ρ S1
  | .bin o a b, F, F2, ρ, S => (ev a F F2 ρ S).bind fun x S1 => (ev b F F2 ρ S1).bind fun y S2 => b2 o x y S2
  | .chn o p a b c, F, F2, ρ, S => (ev a F F2 ρ S).bind fun x S1 => (ev b F F2 ρ S1).bind fun y S2 => ((b2 o x y S2).bind asB).bind fun d S3 => match d with
    | true => (ev c F F2 ρ S3).bind fun z S4 => b2 p y z S4
    | false => .ok (.bl false) S3
  | .tup es, F, F2, ρ, S => (evA es F F2 ρ S).bind fun xs S1 => if xs.length ≤ 1000 then .ok (.tup xs) S1 else .bad
  | .lst es, F, F2, ρ, S => (evA es F F2 ρ S).bind fun xs S1 => if xs.length ≤ 1000 then .ok (.lst xs) S1 else .bad
  | .mut e, F, F2, ρ, S => (ev e F F2 ρ S).bind fun v S1 => match v with
    | .lst xs => .ok (.ptr S1.length) (S1 ++ [.lst xs])
    | _ => .bad
  | .pri p es, F, F2, ρ, S => (evA es F F2 ρ S).bind fun xs S1 => pri p xs S1
  | .mth p o es, F, F2, ρ, S => (ev o F F2 ρ S).bind fun x S1 => if recv p S1 x then (evA es F F2 ρ S1).bind fun xs S2 => pri p (x :: xs) S2 else .bad
  | .cal g es, F, F2, ρ, S => (evA es F F2 ρ S).bind fun xs S1 => F g xs S1
  | .lam b, _, F2, ρ, S => match ev b F2 badO ρ S with
    | .ok _ S1 => .ok (.str []) S1
    | .exc c _ S1 => if c < 13 then .ok (.str (excWord c)) S1 else .bad
    | .bad => .bad
  | .dsp a b c d, F, F2, ρ, S => (ev a F F2 ρ S).bind fun k S1 => (ev b F F2 ρ S1).bind fun x S2 => (ev c F F2 ρ S2).bind fun l S3 => (ev d F F2 ρ S3).bind fun y S4 => match dspOf k x l y with
    | some kvs => .ok (.ptr S4.length) (S4 ++ [.dis kvs])
    | none => .bad
  | .slc a l u back, F, F2, ρ, S => (ev a F F2 ρ S).bind fun x S1 => (evO l F F2 ρ S1).bind fun lo S2 => (evO u F F2 ρ S2).bind fun hi S3 => slc back x lo hi S3
  | .com elt tg it cnd own, F, F2, ρ, S => (evI it F F2 ρ S).bind fun w S1 => match lcGo (fun r s => ev cnd F F2 r s) (fun r s => ev elt F F2 r s) tg (wipeE ρ own) w.g w.xs S1 with
    | .ok vs S2 => .ok (.lst vs) S2
    | _ => .bad
  | .co2 elt tg it tg1 it1 cnd1 own1 own, F, F2, ρ, S => (evI it F F2 ρ S).bind fun w S1 => match lc2Go (fun r s => match evI it1 F F2 r s with
      | .ok w s1 => lcGo (fun r s => ev cnd1 F F2 r s) (fun r s => ev elt F F2 r s) tg1 (wipeE r own1) w.g w.xs s1
      | _ => .bad) tg (wipeE ρ own) w.g w.xs S1 with
    | .ok vs S2 => if vs.length ≤ SL then .ok (.lst vs) S2 else .bad
    | _ => .bad
  | _, _, _, _, _ => .bad
def evA : Ex → Orc → Orc → Env → Store → R (List PV)
  | .nil, _, _, _, S => .ok [] S
  | .cons e es, F, F2, ρ, S => (ev e F F2 ρ S).bind fun x S1 => (evA es F F2 ρ S1).bind fun xs S2 => .ok (x :: xs) S2
  | _, _, _, _, _ => .bad
/-- a part of a slice -/
def evO : Ex → Orc → Orc → Env → Store → R (Option Int)
  | .nil, _, _, _, S => .ok none S
  | .cons e _, F, F2, ρ, S => (ev e F F2 ρ S).bind asI
  | _, _, _, _, _ => .bad
def evI : Ex → Orc → Orc → Env → Store → R Wk
  | .irng a, F, F2, ρ, S => (ev a F F2 ρ S).bind fun x S1 => match x with
    | .int n => if n < 1000000 ∧ -1000000 < n then .ok ⟨rangeP n, none⟩ S1 else .bad
    | _ => .bad
  | .iseq a, F, F2, ρ, S => (ev a F F2 ρ S).bind fun x S1 => match x with
    | .tup xs => .ok ⟨xs, none⟩ S1
    | .lst xs => .ok ⟨xs, none⟩ S1
    | .str xs => .ok ⟨xs.map fun c => .str [c], none⟩ S1
    | .ptr m => match S1[m]? with
      | some (.lst xs) => .ok ⟨xs, some (m, xs)⟩ S1
      | _ => .bad
    | _ => .bad
  | .izip a b, F, F2, ρ, S => (ev a F F2 ρ S).bind fun x S1 => (ev b F F2 ρ S1).bind fun y S2 => match x, y with
    | .tup xs, .tup ys => .ok ⟨zipP xs ys, none⟩ S2
    | .lst xs, .lst ys => .ok ⟨zipP xs ys, none⟩ S2
    | _, _ => .bad
  | .ienu a, F, F2, ρ, S => (ev a F F2 ρ S).bind fun x S1 => match x with
    | .lst xs => .ok ⟨enuP 0 xs, none⟩ S1
    | _ => .bad
  | _, _, _, _, _ => .bad
end
end G
set_option maxHeartbeats 1000000
namespace G
open PySem PySem.Spec PyProof.Rows L2
inductive SR where
  | nx (ρ : Env) (S : Store)
  | rt (v : PV) (S : Store)
  | ex (c : Nat) (v : PV) (ρ : Env) (S : Store)
  | bad
  deriving Inhabited
def SR.of {α : Type} (r : R α) (ρ : Env) (k : α → Store → SR) : SR := match r with
  | .ok v S => k v S
  | .exc c v S => .ex c v ρ S
  | .bad => .bad
/-- a while loop, so many turns at most -/
def whGo (cnd : Env → Store → R PV) (body : Env → Store → SR) : Nat → Env → Store → SR
  | 0, _, _ => .bad
  | n + 1, ρ, S => match (cnd ρ S).bind asB with
    | .ok true S1 => match body ρ S1 with
      | .nx ρ2 S2 => whGo cnd body n ρ2 S2
      | r => r
    | .ok false S1 => .nx ρ S1
    | .exc c v S1 => .ex c v ρ S1
    | _ => .bad
/-- a for loop over these items -/
def foGo (tg : List Nat) (body : Env → Store → SR) (g : Option (Nat × List PV)) : List PV → Env → Store → SR
  | [], ρ, S => if gk g S then .nx ρ S else .bad
  | x :: xs, ρ, S => if gk g S then (match tgSet tg x ρ with
    | none => .bad
    | some ρ1 => match body ρ1 S with
      | .nx ρ2 S2 => foGo tg body g xs ρ2 S2
      | r => r) else .bad
/-- a for loop over the mutable list m, as it stands at each turn -/
def folGo (tg : List Nat) (body : Env → Store → SR) (m : Nat) : Nat → Nat → Env → Store → SR
  | 0, _, _, _ => .bad
  | f + 1, i, ρ, S => match S[m]? with
    | some (.lst xs) => (match xs[i]? with
      | none => .nx ρ S
      | some x => match tgSet tg x ρ with
        | none => .bad
        | some ρ1 => match body ρ1 S with
          | .nx ρ2 S2 => folGo tg body m f (i + 1) ρ2 S2
          | r => r)
    | _ => .bad
/-- o[i] = v of a mutable list -/
def stIdx (o i v : PV) (S : Store) : Option Store := match o, i with
  | .ptr n, .int j => match S[n]? with
    | some (.lst xs) => match ixN xs.length j with
      | some k => some (S.set n (.lst (xs.set k v)))
      | none => none
    | _ => none
  | _, _ => none
def WH : Nat := 100000
def evS : St → Orc → Orc → Env → Store → SR
  | .nop, _, _, ρ, S => .nx ρ S
  | .seq a b, F, F2, ρ, S => match evS a F F2 ρ S with
    | .nx ρ1 S1 => evS b F F2 ρ1 S1
    | r => r
  | .asg i e, F, F2, ρ, S => SR.of (ev e F F2 ρ S) ρ fun v S1 => .nx (ρ.set i (some v)) S1
  | .par is es, F, F2, ρ, S => SR.of (evA es F F2 ρ S) ρ fun xs S1 => if xs.length = is.length then .nx (setAll is xs ρ) S1 else .bad
  | .unp is e, F, F2, ρ, S => SR.of (ev e F F2 ρ S) ρ fun v S1 => match v with
    | .tup xs => if xs.length = is.length then .nx (setAll is xs ρ) S1 else .bad
    | _ => .bad
  | .sti o i e, F, F2, ρ, S => SR.of (ev e F F2 ρ S) ρ fun v S1 => SR.of (ev o F F2 ρ S1) ρ fun w S2 => SR.of (ev i F F2 ρ S2) ρ fun j S3 => match stIdx w j v S3 with
    | some S4 => .nx ρ S4
    | none => .bad
  | .st2 o i o2 i2 e, F, F2, ρ, S => SR.of (ev e F F2 ρ S) ρ fun v S1 => match v with
    | .tup [x, y] => SR.of (ev o F F2 ρ S1) ρ fun w S2 => SR.of (ev i F F2 ρ S2) ρ fun j S3 => match stIdx w j x S3 with
      | some S4 => SR.of (ev o2 F F2 ρ S4) ρ fun w2 S5 => SR.of (ev i2 F F2 ρ S5) ρ fun j2 S6 => match stIdx w2 j2 y S6 with
        | some S7 => .nx ρ S7
        | none => .bad
      | none => .bad
    | _ => .bad
  | .exp e, F, F2, ρ, S => SR.of (ev e F F2 ρ S) ρ fun _ S1 => .nx ρ S1
  | .ret e, F, F2, ρ, S => SR.of (ev e F F2 ρ S) ρ fun v S1 => .rt v S1
  | .ifs c t e, F, F2, ρ, S => SR.of ((ev c F F2 ρ S).bind asB) ρ fun d S1 => match d with
    | true => evS t F F2 ρ S1
    | false => evS e F F2 ρ S1
  | .whl c b, F, F2, ρ, S => whGo (fun r s => ev c F F2 r s) (fun r s => evS b F F2 r s) WH ρ S
  | .for tg it b, F, F2, ρ, S => SR.of (evI it F F2 ρ S) ρ fun w S1 => foGo tg (fun r s => evS b F F2 r s) w.g w.xs ρ S1
  | .fol tg e b, F, F2, ρ, S => SR.of (ev e F F2 ρ S) ρ fun v S1 => match v with
    | .ptr m => folGo tg (fun r s => evS b F F2 r s) m WH 0 ρ S1
    | _ => .bad
  | .rse c, _, _, ρ, S => .ex c .non ρ S
structure FI where
  ar : Nat
  nl : Nat
  body : St
  deriving Repr, DecidableEq, Inhabited
abbrev Prg := List (Nat × FI)
def step (P : Prg) (F F2 : Orc) : Orc := fun g args S => match P.lookup g with
  | none => .bad
  | some f => if args.length = f.ar then (match evS f.body F F2 (args.map some ++ List.replicate (f.nl - f.ar) none) S with
      | .nx _ S1 => .ok .non S1
      | .rt v S1 => .ok v S1
      | .ex c v _ S1 => .exc c v S1
      | .bad => .bad) else .bad
def runs (P : Prg) : Nat → Orc × Orc × Orc
  | 0 => (badO, badO, badO)
  | n + 1 => (step P (runs P n).1 (runs P n).2.2, (runs P n).1, (runs P n).2.1)
/-- at most so many defs, one in another -/
def run (P : Prg) (n : Nat) : Orc := (runs P n).1
theorem runs_2 (P : Prg) : ∀ n, (runs P n).2.1 = run P (n - 1) := by
  intro n
  cases n with
  | zero => rfl
  | succ n => rfl
theorem runs_3 (P : Prg) : ∀ n, (runs P n).2.2 = run P (n - 2) := by
  intro n
  match n with
  | 0 => rfl
  | 1 => rfl
  | n + 2 => rfl
theorem run_succ (P : Prg) (n : Nat) : run P (n + 1) = step P (run P n) (run P (n - 2)) := by
  show step P (runs P n).1 (runs P n).2.2 = _
  rw [runs_3]
  rfl
end G
set_option maxHeartbeats 1000000
namespace G
open PySem PySem.Spec PyProof.Rows L2
/-- what is known of the module's names -/
structure Gb where
  /-- defs: the name, its number, how many parameters -/
  fns : List (Str × Nat × Nat)
  cst : List (Str × Ct)
  /-- classes of errors -/
  exs : List (Str × Nat)
  /-- built-in names -/
  blt : List Str
  /-- defs whose returned display is a mutable list -/
  rmu : List Str
  /-- the def that tells the error that a lambda raises -/
  ler : Option Str
def plainN (x : Str) : Bool := !(x == ("__debug__" : Str)) && !(x == ("__classdict__" : Str)) && !(x == ("__name__" : Str))
def isGl (sc : Scope) (x : Str) : Bool := decide (sc.names.lookup x = some .globalImplicit) && plainN x
def isBl (G : Gb) (sc : Scope) (x : Str) : Bool := isGl sc x && decide (x ∈ G.blt)
def slot (N : List Str) (x : Str) : Option Nat := N.idxOf? x
def varOf (sc : Scope) (N : List Str) (x : Str) : Option Nat := if plainN x then (match sc.names.lookup x with
  | some .local => slot N x
  | some .cell => slot N x
  | some .free => slot N x
  | _ => none) else none
/-- a name that may be stored: local or cell of this very scope -/
def locOf (sc : Scope) (N : List Str) (x : Str) : Option Nat := match sc.names.lookup x with
  | some .local => slot N x
  | some .cell => slot N x
  | _ => none
def binO : Operator → Option B2
  | .Add => some .add | .Sub => some .sub | .Mult => some .mul | .FloorDiv => some .fdiv | .Mod => some .mod | .Pow => some .pow | _ => none
def cmpO : CmpOp → Option B2
  | .Eq => some .eq | .NotEq => some .ne | .Lt => some .lt | .LtE => some .le | .Gt => some .gt | .GtE => some .ge
  | .Is => some .is | .IsNot => some .isnot | .In => some .inn | .NotIn => some .notin
def kdOf (x : Str) : Option Kd := if x = ("int" : Str) then some .int else if x = ("bool" : Str) then some .bool else if x = ("str" : Str) then some .str else if x = ("tuple" : Str) then some .tuple else if x = ("list" : Str) then some .list else none
/-- built-ins by name and how many arguments -/
def priOf (x : Str) (n : Nat) : Option Pr :=
  if n = 1 then (if x = ("len" : Str) then some .len else if x = ("int" : Str) then some .int else if x = ("abs" : Str) then some .abs else if x = ("list" : Str) then some .list else if x = ("tuple" : Str) then some .tuple else if x = ("sorted" : Str) then some .sorted else if x = ("max" : Str) then some .max1 else if x = ("str" : Str) then some .str else if x = ("sum" : Str) then some .sum else none)
  else if n = 2 then (if x = ("max" : Str) then some .max2 else if x = ("min" : Str) then some .min2 else none)
  else none
def mthOf (x : Str) (n : Nat) : Option Pr := if n = 1 then (if x = ("index" : Str) then some .index else if x = ("append" : Str) then some .append else if x = ("remove" : Str) then some .remove else if x = ("split" : Str) then some .split else if x = ("join" : Str) then some .join else none) else if n = 2 then (if x = ("get" : Str) then some .dget else none) else if n = 0 then (if x = ("upper" : Str) then some .upper else none) else none
def tgNames : Expr → Option (List Str)
  | .Name x _ => some [x]
  | .Tuple es _ _ => es.mapM fun e => match e with | .Name x _ => some x | _ => none
  | _ => none
def isTupE : Expr → Bool
  | .Tuple _ _ _ => true | _ => false
/-- targets: the slots, all different -/
def tgOf (sc : Scope) (N : List Str) (t : Expr) : Option (List Nat) := do
  let xs ← tgNames t
  let is ← xs.mapM (locOf sc N)
  if is.Nodup ∧ (isTupE t = true → 2 ≤ is.length) then some is else none
/-- an index that is no slice -/
def plainIx : Expr → Bool
  | .Slice _ _ _ _ => false
  | .Tuple _ _ _ => false
  | .Starred _ _ => false
  | _ => true
def notStar : Expr → Bool
  | .Starred _ _ => false | _ => true
/-- what comes back new each time -/
def freshE : Expr → Ex → Bool
  | .List _ _, .lst _ => true
  | .Call (.Name f _) [a] [] _, .pri .list _ => decide (f = ("list" : Str)) && (match a with | .Lambda _ _ _ _ => false | _ => true)
  | .ListComp _ _ _ _, .com _ _ _ _ _ => true
  | .ListComp _ _ _ _, .co2 _ _ _ _ _ _ _ _ => true
  | _, _ => false
def notSuper : Expr → Bool
  | .Call (.Name _ _) [] [] _ => false
  | _ => true
def minus1 : Expr → Bool
  | .UnaryOp .USub (.Constant (.int 1) _ _) _ => true
  | _ => false
def notComp : Expr → Bool
  | .ListComp _ _ _ _ => false
  | .SetComp _ _ _ _ => false
  | .DictComp _ _ _ _ _ => false
  | _ => true
/-- which stores of a, b = x, y go from the right (as the model has it); none: not covered -/
def swB (sc : Scope) (ts vs : List Expr) : Option (Option (List Str)) :=
  if !(ts.length == 2 || ts.length == 3) || vs.length != ts.length || (if sc.kind.isAnnotationScope then ScopeKind.function else sc.kind) != .function then some none
  else if (vs.any fun | .Starred .. => true | _ => false) then some none
  else
    let line := (ts.head?.map (·.pos.line)).getD 0
    let names := ts.filterMap fun
      | .Name id pos => if sc.names.lookup id == some .local && pos.line == line then some id else none
      | _ => none
    if names.length != ts.length || names.eraseDups.length != names.length then some none
    else if vs.all (foldedForSure 8) then some none
    else if vs.all (constantsAlone 8) then none
    else some (some names)
/-- how a lambda that is handed to the error's teller is compiled -/
abbrev LamC := Scope → List Str → Expr → Option Ex
/-- a block's own names with their slots -/
def ownOf (N : List Str) (scope : Scope) : List (Str × Nat) := scope.names.filterMap fun y => if y.2 = .local ∨ y.2 = .cell then (slot N y.1).map fun i => (y.1, i) else none
def ifOf (f : Expr → Option Ex) : List Expr → Option Ex
  | [] => some (.cst (.bl true))
  | [c] => f c
  | _ => none
def noL : LamC := fun _ _ _ => none
/-- sorted(set(a)) -/
def sset (f : Str) (args : List Expr) : Option (Str × Expr) := if f = ("sorted" : Str) then (match args with
    | [.Call (.Name g _) [a] [] _] => if g = ("set" : Str) then some (g, a) else none
    | _ => none) else none
mutual
def cE (G : Gb) : LamC → Nat → Scope → List Str → Expr → Option Ex
  | _, 0, _, _, _ => none
  | L, n + 1, sc, N, e => match e with
    | .Constant .none _ _ => some (.cst .non)
    | .Constant (.bool b) _ _ => some (.cst (.bl b))
    | .Constant (.int i) _ _ => some (.cst (.int i))
    | .Constant (.str s) _ _ => if okS s.cps.toList then some (.cst (.str s.cps.toList)) else none
    | .Name x _ => if isGl sc x then (G.cst.lookup x).map .cst else (varOf sc N x).map .var
    | .UnaryOp .Not a _ => (cE G L n sc N a).map .not
    | .UnaryOp .USub a _ => (cE G L n sc N a).map fun a => .pri .neg (.cons a .nil)
    | .BoolOp .And vs _ => cAnd G L n sc N vs
    | .BoolOp .Or vs _ => cOr G L n sc N vs
    | .IfExp c a b _ => do some (.ite (← cE G L n sc N c) (← cE G L n sc N a) (← cE G L n sc N b))
    | .BinOp a o b _ => do some (.bin (← binO o) (← cE G L n sc N a) (← cE G L n sc N b))
    | .Compare a [o] [b] _ => do some (.bin (← cmpO o) (← cE G L n sc N a) (← cE G L n sc N b))
    | .Compare a [o, p] [b, c] _ => do some (.chn (← cmpO o) (← cmpO p) (← cE G L n sc N a) (← cE G L n sc N b) (← cE G L n sc N c))
    | .Tuple es _ _ => do some (.tup (← cA G L n sc N es))
    | .List es _ => do some (.lst (← cA G L n sc N es))
    | .Dict [some k, some l] [x, y] _ => do some (.dsp (← cE G L n sc N k) (← cE G L n sc N x) (← cE G L n sc N l) (← cE G L n sc N y))
    | .Subscript a (.Slice l u none _) _ => do some (.slc (← cE G L n sc N a) (← cO G L n sc N l) (← cO G L n sc N u) false)
    | .Subscript a (.Slice l u (some st) _) _ => if minus1 st then do some (.slc (← cE G L n sc N a) (← cO G L n sc N l) (← cO G L n sc N u) true) else none
    | .Subscript a i _ => if plainIx i then do some (.bin .idx (← cE G L n sc N a) (← cE G L n sc N i)) else none
    | .ListComp elt [⟨tg, it, ifs, 0⟩] scope _ => do
      if blkC N sc scope (ownOf N scope) then
        let is ← tgOf scope N tg
        let ci ← cI G L n sc N (isTupE tg) it
        let ct ← ifOf (fun c => cE G noL n (relS scope sc) N c) ifs
        let ce ← cE G noL n (relS scope sc) N elt
        some (.com ce is ci ct ((ownOf N scope).map (·.2)))
      else none
    | .ListComp elt [⟨tg, it, [], 0⟩, ⟨tg1, it1, ifs1, 0⟩] scope _ => do
      if blkC N sc scope (ownOf N scope) then
        let is ← tgOf scope N tg
        let ci ← cI G L n sc N (isTupE tg) it
        let is1 ← tgOf scope N tg1
        let ci1 ← cI G noL n (relS scope sc) N (isTupE tg1) it1
        let ct ← ifOf (fun c => cE G noL n (relS scope sc) N c) ifs1
        let ce ← cE G noL n (relS scope sc) N elt
        some (.co2 ce is ci is1 ci1 ct is1 ((ownOf N scope).map (·.2)))
      else none
    | .Call (.Name f q) [.Lambda a b c d] [] r => L sc N (.Call (.Name f q) [.Lambda a b c d] [] r)
    | .Call (.Name f _) [a, .Name k kp] [] _ => if f = ("isinstance" : Str) ∧ isBl G sc f = true ∧ isBl G sc k = true then do some (.pri (.isi (← kdOf k)) (.cons (← cE G L n sc N a) .nil)) else cCall G L n sc N f [a, .Name k kp]
    | .Call (.Name f _) args [] _ => cCall G L n sc N f args
    | .Call (.Attribute o m apos) args [] cpos => if notSuper o ∧ (apos.endLine == cpos.line) = true ∧ args.length ≤ 2 then do
      let p ← mthOf m args.length
      some (.mth p (← cE G L n sc N o) (← cA G L n sc N args))
      else none
    | _ => none
def cCall (G : Gb) : LamC → Nat → Scope → List Str → Str → List Expr → Option Ex
  | _, 0, _, _, _, _ => none
  | L, n + 1, sc, N, f, args => match sset f args with
    | some (g, a) => if isBl G sc f = true ∧ isBl G sc g = true ∧ notStar a = true then do some (.pri .sortset (.cons (← cE G L n sc N a) .nil)) else none
    | none => if isGl sc f then (match G.fns.lookup f with
    | some (g, ar) => if args.length = ar then do some (.cal g (← cA G L n sc N args)) else none
    | none => if decide (f ∈ G.blt) then do some (.pri (← priOf f args.length) (← cA G L n sc N args)) else none) else none
def cA (G : Gb) : LamC → Nat → Scope → List Str → List Expr → Option Ex
  | _, 0, _, _, _ => none
  | _, _ + 1, _, _, [] => some .nil
  | L, n + 1, sc, N, e :: es => if notStar e then do some (.cons (← cE G L n sc N e) (← cA G L n sc N es)) else none
def cAnd (G : Gb) : LamC → Nat → Scope → List Str → List Expr → Option Ex
  | _, 0, _, _, _ => none
  | _, _ + 1, _, _, [] => none
  | L, n + 1, sc, N, [e] => cE G L n sc N e
  | L, n + 1, sc, N, e :: es => do some (.and (← cE G L n sc N e) (← cAnd G L n sc N es))
def cOr (G : Gb) : LamC → Nat → Scope → List Str → List Expr → Option Ex
  | _, 0, _, _, _ => none
  | _, _ + 1, _, _, [] => none
  | L, n + 1, sc, N, [e] => cE G L n sc N e
  | L, n + 1, sc, N, e :: es => do some (.or (← cE G L n sc N e) (← cOr G L n sc N es))
def cO (G : Gb) : LamC → Nat → Scope → List Str → Option Expr → Option Ex
  | _, 0, _, _, _ => none
  | _, _ + 1, _, _, none => some .nil
  | L, n + 1, sc, N, some e => (cE G L n sc N e).map fun c => .cons c .nil
def cI (G : Gb) : LamC → Nat → Scope → List Str → Bool → Expr → Option Ex
  | _, 0, _, _, _, _ => none
  | L, n + 1, sc, N, tup, it => match it with
    | .Call (.Name f _) [a] [] _ => if f = ("range" : Str) ∧ isBl G sc f = true ∧ notStar a = true then do some (.irng (← cE G L n sc N a))
      else if f = ("enumerate" : Str) ∧ isBl G sc f = true ∧ tup = true ∧ notStar a = true then do some (.ienu (← cE G L n sc N a))
      else do some (.iseq (← cE G L n sc N it))
    | .Call (.Name f _) [a, b] [] _ => if f = ("zip" : Str) ∧ isBl G sc f = true ∧ tup = true ∧ notStar a = true ∧ notStar b = true then do some (.izip (← cE G L n sc N a) (← cE G L n sc N b))
      else do some (.iseq (← cE G L n sc N it))
    | .Set _ _ _ => none
    | _ => do some (.iseq (← cE G L n sc N it))
end
/-- names whose lists are changed in place -/
def mutE : Expr → List Str
  | .Call (.Attribute (.Name x _) m _) _ _ _ => if m = ("append" : Str) ∨ m = ("remove" : Str) ∨ m = ("pop" : Str) then [x] else []
  | _ => []
mutual
def mutS : Nat → Stmt → List Str
  | 0, _ => []
  | n + 1, st => match st with
    | .Expr e _ => mutE e
    | .Assign [.Subscript (.Name x _) _ _] _ _ => [x]
    | .Assign [.Tuple [.Subscript (.Name x _) _ _, .Subscript (.Name y _) _ _] _ _] _ _ => [x, y]
    | .For _ _ b _ _ => mutSs n b
    | .While _ b _ _ => mutSs n b
    | .If _ b c _ => mutSs n b ++ mutSs n c
    | _ => []
def mutSs : Nat → List Stmt → List Str
  | 0, _ => []
  | _ + 1, [] => []
  | n + 1, s :: r => mutS n s ++ mutSs n r
end
def isMv (mv : List Str) : Expr → Bool
  | .Name x _ => decide (x ∈ mv)
  | _ => false
def mk (m : Bool) (e : Expr) (c : Ex) : Ex := if m && freshE e c then .mut c else c
def cMs (G : Gb) (L : LamC) (n : Nat) (sc : Scope) (N mv : List Str) : List Str → List Expr → Option Ex
  | [], [] => some .nil
  | x :: xs, e :: es => if notStar e then do
      let c ← cE G L n sc N e
      some (.cons (mk (decide (x ∈ mv)) e c) (← cMs G L n sc N mv xs es))
    else none
  | _, _ => none
def isLoc (sc : Scope) (x : Str) : Bool := decide (sc.names.lookup x = some .local)
mutual
def cS (G : Gb) (L : LamC) (sc : Scope) (N mv : List Str) (rm : Bool) : Nat → Stmt → Option St
  | 0, _ => none
  | n + 1, st => match st with
    | .Pass _ => some .nop
    | .Assign [.Name x _] e _ => do
      let i ← locOf sc N x
      let c ← cE G L 60 sc N e
      some (.asg i (mk (decide (x ∈ mv)) e c))
    | .Assign [.Tuple [.Subscript o i _, .Subscript o2 i2 _] _ _] e _ => if plainIx i && plainIx i2 then do some (.st2 (← cE G L 60 sc N o) (← cE G L 60 sc N i) (← cE G L 60 sc N o2) (← cE G L 60 sc N i2) (← cE G L 60 sc N e)) else none
    | .Assign [.Tuple ts k p] (.Tuple es k2 p2) _ => do
      let xs ← tgNames (.Tuple ts k p)
      let is ← tgOf sc N (.Tuple ts k p)
      if swB sc ts es = some (some xs) ∧ xs.all (isLoc sc) = true ∧ xs.length = es.length ∧ (xs.length = 2 ∨ xs.length = 3) then some (.par is (← cMs G L 60 sc N mv xs es))
      else if swB sc ts es = some none ∧ xs.all (fun x => decide (x ∉ mv)) = true then some (.unp is (← cE G L 60 sc N (.Tuple es k2 p2))) else none
    | .Assign [.Tuple ts k p] e _ => do
      let is ← tgOf sc N (.Tuple ts k p)
      some (.unp is (← cE G L 60 sc N e))
    | .Assign [.Subscript o i _] e _ => if plainIx i then do some (.sti (← cE G L 60 sc N o) (← cE G L 60 sc N i) (← cE G L 60 sc N e)) else none
    | .Expr e _ => if notComp e then do some (.exp (← cE G L 60 sc N e)) else none
    | .Return (some e) _ => do some (.ret (mk rm e (← cE G L 60 sc N e)))
    | .Return none _ => some (.ret (.cst .non))
    | .If c t e _ => do some (.ifs (← cE G L 60 sc N c) (← cSs G L sc N mv rm n t) (← cSs G L sc N mv rm n e))
    | .While c b [] _ => do some (.whl (← cE G L 60 sc N c) (← cSs G L sc N mv rm n b))
    | .For tg it b [] _ => do
      let is ← tgOf sc N tg
      if isMv mv it then some (.fol is (← cE G L 60 sc N it) (← cSs G L sc N mv rm n b))
      else some (.for is (← cI G L 60 sc N (isTupE tg) it) (← cSs G L sc N mv rm n b))
    | .Raise (some (.Call (.Name x _) [.Constant (.str _) _ _] [] _)) none _ => if isGl sc x then do some (.rse (← G.exs.lookup x)) else none
    | _ => none
def cSs (G : Gb) (L : LamC) (sc : Scope) (N mv : List Str) (rm : Bool) : Nat → List Stmt → Option St
  | 0, _ => none
  | _ + 1, [] => some .nop
  | n + 1, s :: r => do some (.seq (← cS G L sc N mv rm n s) (← cSs G L sc N mv rm n r))
end
/-- plain parameters -/
def plainPar (p : Arguments) : Bool := match p with
  | ⟨[], _, none, [], [], none, []⟩ => true
  | _ => false
/-- no parameters -/
def lamPar (p : Arguments) : Bool := match p with
  | ⟨[], [], none, [], [], none, []⟩ => true
  | _ => false
def cL (G : Gb) : LamC := fun sc N e => match e with
  | .Call (.Name x _) [.Lambda params body scope _] [] _ => if G.ler = some x ∧ isGl sc x = true ∧ LamX.lamSB sc scope = true ∧ lamPar params = true then (cE G noL 60 scope N body).map .lam else none
  | _ => none
/-- a def: N its names by slot, parameters first -/
def cF (G : Gb) (L : LamC) (N : List Str) : Stmt → Option FI
  | .FunctionDef name args body [] _ _ sc _ _ _ => do
    let ps := args.args.map (·.arg)
    if sc.kind = .function ∧ sc.isCoroutine = false ∧ sc.isGenerator = false ∧ N.Nodup ∧ N.take ps.length = ps ∧ (ps.all fun x => decide (sc.names.lookup x = some .local ∨ sc.names.lookup x = some .cell)) = true
        ∧ (sc.names.all fun y => decide (y.2 ≠ .free)) = true ∧ plainPar args = true then
      some ⟨ps.length, N.length, ← cSs G L sc N (mutSs 60 body) (decide (name ∈ G.rmu)) 60 body⟩
    else none
  | _ => none
end G
set_option maxHeartbeats 1000000
namespace G
open PySem PySem.Spec PyProof.Rows L2
variable {K : PySem.W.Frag} {M M' M1 : Ms} {H H' H1 : Hp}
theorem Kp.rd (e : Kp M H M' H') {a : Addr} {u : HO} (hu : isRp u = true) (h : Rd H a u ∧ a ∉ M) : Rd H' a u ∧ a ∉ M' := by
  obtain ⟨h, hm⟩ := h
  rcases h with h | ⟨o, h⟩
  · exact ⟨.inl (e.imm _ _ hm h hu), e.out _ _ hm h hu⟩
  · exact ⟨.inr ⟨o, e.imm _ _ hm h rfl⟩, e.out _ _ hm h rfl⟩
theorem TupAt.kp (e : Kp M H M' H') {a : Addr} {vs : List V} (h : TupAt M H a vs) : TupAt M' H' a vs := let ⟨⟨o, h1, h3⟩, h2⟩ := h; ⟨⟨o, e.imm _ _ h2 h1 rfl, h3⟩, e.out _ _ h2 h1 rfl⟩
theorem LstAt.kp (e : Kp M H M' H') {a : Addr} {vs : List V} (h : LstAt M H a vs) : LstAt M' H' a vs := ⟨e.imm _ _ h.2 h.1 rfl, e.out _ _ h.2 h.1 rfl⟩
theorem ScrAt.kp (e : Kp M H M' H') {a : Addr} {vs : List V} (h : ScrAt K M H a vs) : ScrAt K M' H' a vs := h.elim (fun x => .inl (e.rd rfl x)) .inr
mutual
theorem Rep.kp (e : Kp M H M' H') : ∀ {x : PV} {v : V}, Rep K M H x v → Rep K M' H' x v
  | .non, v, h => by unfold Rep at h ⊢; exact h
  | .bl _, v, h => by unfold Rep at h ⊢; exact h
  | .int _, v, h => by unfold Rep at h ⊢; exact h
  | .str _, v, h => by unfold Rep at h ⊢; exact h
  | .tup xs, v, h => by
    unfold Rep at h ⊢
    obtain ⟨a, vs, e1, h1, h2⟩ := h
    exact ⟨a, vs, e1, h1.kp e, RepL.kp e h2⟩
  | .lst xs, v, h => by
    unfold Rep at h ⊢
    obtain ⟨a, vs, e1, h1, h2⟩ := h
    exact ⟨a, vs, e1, h1.kp e, RepL.kp e h2⟩
  | .ptr n, v, h => by
    unfold Rep at h ⊢
    obtain ⟨a, e1, h1⟩ := h
    exact ⟨a, e1, e.at_ _ _ h1⟩
  | .scr ns, v, h => by
    unfold Rep at h ⊢
    obtain ⟨a, e1, h1⟩ := h
    exact ⟨a, e1, h1.kp e⟩
  | .exn _, v, h => by unfold Rep at h ⊢; exact h
theorem RepL.kp (e : Kp M H M' H') : ∀ {x : List PV} {v : List V}, RepL K M H x v → RepL K M' H' x v
  | [], v, h => by unfold RepL at h ⊢; exact h
  | x :: xs, v, h => by
    unfold RepL at h ⊢
    obtain ⟨w, ws, e1, h1, h2⟩ := h
    exact ⟨w, ws, e1, Rep.kp e h1, RepL.kp e h2⟩
end
theorem Rep.ext (e : Ext M H M' H') {x : PV} {v : V} (h : Rep K M H x v) : Rep K M' H' x v := h.kp e.kpp
theorem RepL.ext (e : Ext M H M' H') {x : List PV} {v : List V} (h : RepL K M H x v) : RepL K M' H' x v := h.kp e.kpp
theorem RepL.nil : RepL K M H [] [] := by unfold RepL; rfl
theorem RepL.cons {x xs v vs} (h : Rep K M H x v) (t : RepL K M H xs vs) : RepL K M H (x :: xs) (v :: vs) := by unfold RepL; exact ⟨_, _, rfl, h, t⟩
theorem RepL.cons_inv {x xs vs} (h : RepL K M H (x :: xs) vs) : ∃ w ws, vs = w :: ws ∧ Rep K M H x w ∧ RepL K M H xs ws := by unfold RepL at h; exact h
theorem RepL.nil_inv {vs} (h : RepL K M H [] vs) : vs = [] := by unfold RepL at h; exact h
theorem RepL.length : ∀ {xs : List PV} {vs : List V}, RepL K M H xs vs → xs.length = vs.length
  | [], vs, h => by rw [h.nil_inv]; rfl
  | x :: xs, vs, h => by
    obtain ⟨w, ws, rfl, _, t⟩ := h.cons_inv
    rw [List.length_cons, List.length_cons, RepL.length t]
theorem RepL.get : ∀ {xs : List PV} {vs : List V} {i : Nat} {x : PV}, RepL K M H xs vs → xs[i]? = some x → ∃ v, vs[i]? = some v ∧ Rep K M H x v
  | [], vs, i, x, h, e => by simp at e
  | y :: xs, vs, i, x, h, e => by
    obtain ⟨w, ws, rfl, h1, t⟩ := h.cons_inv
    cases i with
    | zero => simp at e; subst e; exact ⟨w, rfl, h1⟩
    | succ i =>
      simp at e
      obtain ⟨v, a, b⟩ := RepL.get t e
      exact ⟨v, by simpa using a, b⟩
theorem RepL.append : ∀ {xs ys : List PV} {vs ws : List V}, RepL K M H xs vs → RepL K M H ys ws → RepL K M H (xs ++ ys) (vs ++ ws)
  | [], ys, vs, ws, h, t => by rw [h.nil_inv]; exact t
  | x :: xs, ys, vs, ws, h, t => by
    obtain ⟨w, r, rfl, h1, h2⟩ := h.cons_inv
    exact .cons h1 (RepL.append h2 t)
theorem RepL.drop : ∀ {xs : List PV} {vs : List V} (n : Nat), RepL K M H xs vs → RepL K M H (xs.drop n) (vs.drop n)
  | xs, vs, 0, h => h
  | [], vs, n + 1, h => by rw [h.nil_inv]; exact .nil
  | x :: xs, vs, n + 1, h => by
    obtain ⟨w, r, rfl, h1, h2⟩ := h.cons_inv
    exact RepL.drop n h2
theorem RepL.take : ∀ {xs : List PV} {vs : List V} (n : Nat), RepL K M H xs vs → RepL K M H (xs.take n) (vs.take n)
  | xs, vs, 0, h => by simpa using .nil
  | [], vs, n + 1, h => by rw [h.nil_inv]; exact .nil
  | x :: xs, vs, n + 1, h => by
    obtain ⟨w, r, rfl, h1, h2⟩ := h.cons_inv
    exact .cons h1 (RepL.take n h2)
theorem RepL.reverse {xs : List PV} {vs : List V} (h : RepL K M H xs vs) : RepL K M H xs.reverse vs.reverse := by
  induction xs generalizing vs with
  | nil => rw [h.nil_inv]; exact .nil
  | cons x xs ih =>
    obtain ⟨w, r, rfl, h1, h2⟩ := h.cons_inv
    rw [List.reverse_cons, List.reverse_cons]
    exact (ih h2).append (.cons h1 .nil)
theorem RepL.set : ∀ {xs : List PV} {vs : List V} {x : PV} {v : V} (i : Nat), RepL K M H xs vs → Rep K M H x v → RepL K M H (xs.set i x) (vs.set i v)
  | [], vs, x, v, i, h, t => by rw [h.nil_inv]; simpa using .nil
  | y :: xs, vs, x, v, i, h, t => by
    obtain ⟨w, r, rfl, h1, h2⟩ := h.cons_inv
    cases i with
    | zero => exact .cons t h2
    | succ i => exact .cons h1 (RepL.set i h2 t)
theorem nodup_at {α : Type} {l : List α} (nd : l.Nodup) {i j : Nat} {a : α} (h : l[i]? = some a) (h' : l[j]? = some a) : i = j := by
  obtain ⟨l1, e1⟩ := List.getElem?_eq_some_iff.mp h
  obtain ⟨l2, e2⟩ := List.getElem?_eq_some_iff.mp h'
  have pw := List.pairwise_iff_getElem.mp nd
  rcases Nat.lt_trichotomy i j with z | z | z
  · exact absurd (e1.trans e2.symm) (pw i j l1 l2 z)
  · exact z
  · exact absurd (e2.trans e1.symm) (pw j i l2 l1 z)
structure Pm where
  K : PySem.W.Frag
  T : List (Addr × Str)
  XA : Nat → Addr
def keyS (kvs : List (List Nat × PV)) : List Key := kvs.map fun e => .inr (SS e.1)
def valS (kvs : List (List Nat × PV)) : List PV := kvs.map (·.2)
def MOk (K : PySem.W.Frag) (M : Ms) (H : Hp) (a : Addr) : MO → Prop
  | .lst xs => ∃ vs, H a = some (.lst vs) ∧ RepL K M H xs vs
  | .dis kvs => ∃ vs, H a = some (.dK ((keyS kvs).zip vs)) ∧ RepL K M H (valS kvs) vs
structure SOk (p : Pm) (M : Ms) (S : Store) (H : Hp) : Prop where
  len : M.l.length = S.length
  nd : M.l.Nodup
  zl : ∀ a, a ∈ M.z → ∃ vs, H a = some (.lst vs)
  zd : ∀ a, a ∈ M.z → a ∉ M.l
  obj : ∀ (i : Nat) (a : Addr) (o : MO), M.l[i]? = some a → S[i]? = some o → MOk p.K M H a o
  tabs : LamX.Tabs p.T H
theorem zl_live {p : Pm} {M : Ms} {S : Store} {H : Hp} (s : SOk p M S H) (a : Addr) (h : a ∈ M.z) : H a ≠ none := by
  obtain ⟨vs, e⟩ := s.zl a h
  rw [e]; simp
variable {p : Pm} {S S' S1 : Store}
theorem SOk.live (s : SOk p M S H) {a : Addr} (h : a ∈ M) : H a ≠ none := by
  rcases h with h | h
  · obtain ⟨i, hi, rfl⟩ := List.mem_iff_getElem.mp h
    have hs : i < S.length := by rw [← s.len]; exact hi
    have := s.obj i _ S[i] (List.getElem?_eq_getElem hi) (List.getElem?_eq_getElem hs)
    cases e : S[i] with
    | lst xs => rw [e] at this; obtain ⟨vs, e1, _⟩ := this; rw [e1]; simp
    | dis xs => rw [e] at this; obtain ⟨vs, e1, _⟩ := this; rw [e1]; simp
  · exact zl_live s a h
theorem MOk.kp (e : Kp M H M' H') {a : Addr} {o : MO} (hk : ∀ u, H a = some u → (∀ ps, u ≠ .tbl ps) → H' a = some u) (h : MOk K M H a o) : MOk K M' H' a o := by
  cases o with
  | lst xs =>
    obtain ⟨vs, e1, r⟩ := h
    exact ⟨vs, hk _ e1 (fun _ z => nomatch z), r.kp e⟩
  | dis xs =>
    obtain ⟨vs, e1, r⟩ := h
    exact ⟨vs, hk _ e1 (fun _ z => nomatch z), r.kp e⟩
theorem tabs_keep {T : List (Addr × Str)} (k : ∀ b o, H b = some o → (∀ xs, o ≠ .lst xs) → (∀ xs, o ≠ .dK xs) → H' b = some o) (t : LamX.Tabs T H) : LamX.Tabs T H' := fun q hq => by
  obtain ⟨ps, h1, h2, h3⟩ := t q hq
  refine ⟨ps, k _ _ h1 (fun _ z => nomatch z) (fun _ z => nomatch z), h2, fun pos cv hc => ?_⟩
  obtain ⟨c, e1, e2⟩ := h3 pos cv hc
  exact ⟨c, e1, k _ _ e2 (fun _ z => by unfold LamX.CodeO at z; cases z) (fun _ z => by unfold LamX.CodeO at z; cases z)⟩
/-- a new thing that nobody changes -/
theorem Ext.alloc (s : SOk p M S H) {a : Addr} {o : HO} (hn : H a = none) : Ext M H M (upd H a o) :=
  ⟨⟨[], by simp⟩, rfl, fun b hb hn' => absurd hb hn', fun b o' _ hb _ => by rw [upd_ne (ne_of_none hb hn)]; exact hb, fun b hb => upd_ne fun e => zl_live s b hb (e ▸ hn)⟩
theorem SOk.alloc (s : SOk p M S H) {a : Addr} {o : HO} (hn : H a = none) : SOk p M S (upd H a o) :=
  ⟨s.len, s.nd, fun b hb => by rw [(Ext.alloc s hn (o := o)).zk b hb]; exact s.zl b hb, s.zd, fun i b u h1 h2 => (s.obj i b u h1 h2).kp (Ext.alloc s hn).kpp fun vs e _ => by rw [upd_ne (ne_of_none e hn)]; exact e,
    tabs_keep (fun b u e _ _ => by rw [upd_ne (ne_of_none e hn)]; exact e) s.tabs⟩
/-- a new mutable list -/
theorem Ext.cell (s : SOk p M S H) {a : Addr} {o : HO} (hn : H a = none) : Ext M H (M.add a) (upd H a o) :=
  ⟨⟨[a], rfl⟩, rfl, fun b hb hn' => by
    rcases hb with hb | hb
    · rcases List.mem_append.mp hb with h | h
      · exact absurd (.inl h) hn'
      · rw [List.mem_singleton.mp h]; exact .of_none hn
    · exact absurd (.inr hb) hn', fun b o' _ hb _ => by rw [upd_ne (ne_of_none hb hn)]; exact hb, fun b hb => upd_ne fun e => zl_live s b hb (e ▸ hn)⟩
theorem SOk.cell (s : SOk p M S H) {a : Addr} {vs : List V} {xs : List PV} (hn : H a = none) (r : RepL p.K M H xs vs) : SOk p (M.add a) (S ++ [.lst xs]) (upd H a (.lst vs)) := by
  have na : a ∉ M := fun h => s.live h hn
  have s' := s.alloc (o := .lst vs) hn
  have E : Ext M H (M.add a) (upd H a (.lst vs)) := Ext.cell s hn
  refine ⟨by simp [Ms.add, s.len], ?_, s'.zl, fun b hb hm => ?_, fun i b u h1 h2 => ?_, s'.tabs⟩
  · show (M.l ++ [a]).Nodup
    rw [List.nodup_append]
    exact ⟨s.nd, by simp, fun x hx y hy => by rw [List.mem_singleton.mp hy]; exact fun z => na (z ▸ .inl hx)⟩
  · rcases List.mem_append.mp hm with h | h
    · exact s.zd b hb h
    · exact na (List.mem_singleton.mp h ▸ .inr hb)
  · have h1 : (M.l ++ [a])[i]? = some b := h1
    by_cases hi : i < M.l.length
    · rw [List.getElem?_append_left hi] at h1
      rw [List.getElem?_append_left (by rw [← s.len]; exact hi)] at h2
      exact (s.obj i b u h1 h2).kp E.kpp fun vs e _ => by rw [upd_ne (ne_of_none e hn)]; exact e
    · rw [List.getElem?_append_right (by omega)] at h1
      rw [List.getElem?_append_right (by rw [← s.len]; omega)] at h2
      have hb : i - M.l.length = 0 := by
        rcases Nat.eq_zero_or_pos (i - M.l.length) with z | z
        · exact z
        · rw [List.getElem?_eq_none (by simp only [List.length_cons, List.length_nil]; omega)] at h1; cases h1
      rw [hb] at h1
      rw [← s.len, hb] at h2
      cases h1; cases h2
      exact ⟨vs, upd_same, r.ext E⟩
/-- a mutable list is changed -/
theorem Ext.chg (s : SOk p M S H) {n : Nat} {a : Addr} {o : HO} (hm : M.l[n]? = some a) : Ext M H M (upd H a o) :=
  ⟨⟨[], by simp⟩, rfl, fun b hb hn' => absurd hb hn', fun b o' hb e _ => by
    rw [upd_ne (fun z => hb (by rw [z]; exact .inl (List.mem_of_getElem? hm)))]; exact e, fun b hb => upd_ne fun e => s.zd b hb (e ▸ List.mem_of_getElem? hm)⟩
theorem SOk.chg (s : SOk p M S H) {n : Nat} {a : Addr} {vs ws : List V} {xs : List PV} (hm : M.l[n]? = some a) (ho : H a = some (.lst ws)) (r : RepL p.K M H xs vs) : SOk p M (S.set n (.lst xs)) (upd H a (.lst vs)) := by
  have E : Ext M H M (upd H a (.lst vs)) := Ext.chg s hm
  refine ⟨by simp [s.len], s.nd, fun b hb => by rw [E.zk b hb]; exact s.zl b hb, s.zd, fun i b u h1 h2 => ?_, tabs_keep (fun b u e ne _ => by rw [upd_ne (fun z => by rw [z, ho] at e; exact ne ws (Option.some.inj e).symm)]; exact e) s.tabs⟩
  by_cases hi : i = n
  · subst hi
    rw [hm] at h1; cases h1
    have hl : i < S.length := by rw [← s.len]; exact (List.getElem?_eq_some_iff.mp hm).1
    rw [List.getElem?_set_self hl] at h2
    cases h2
    exact ⟨vs, upd_same, r.ext E⟩
  · rw [List.getElem?_set_ne (Ne.symm hi)] at h2
    have hb : b ≠ a := fun z => by
      subst z
      exact hi (nodup_at s.nd h1 hm)
    exact (s.obj i b u h1 h2).kp E.kpp fun vs e _ => by rw [upd_ne hb]; exact e
theorem SOk.at_ (s : SOk p M S H) {n : Nat} {a : Addr} {xs : List PV} (hm : M.l[n]? = some a) (hs : S[n]? = some (.lst xs)) : ∃ vs, H a = some (.lst vs) ∧ RepL p.K M H xs vs := s.obj n a _ hm hs
theorem Kp.dcell {q : Addr} {o : HO} (hp : q ∉ M) (he : H q = some (.dK [])) : Kp M H (M.add q) (upd H q o) := by
  refine ⟨fun a u _ e hi => ?_, fun a u ha e hi z => ?_, fun n a e => ?_⟩
  · rw [upd_ne (fun z => by rw [z, he] at e; cases e; cases hi)]; exact e
  · rcases z with z | z
    · rcases List.mem_append.mp z with z | z
      · exact ha (.inl z)
      · rw [List.mem_singleton.mp z, he] at e; cases e; cases hi
    · exact ha (.inr z)
  · show (M.l ++ [q])[n]? = some a
    rw [List.getElem?_append_left (List.getElem?_eq_some_iff.mp e).1]; exact e
theorem SOk.dcell {q : Addr} {kvs : List (List Nat × PV)} {vs : List V} (s : SOk p M S H) (hp : q ∉ M) (he : H q = some (.dK [])) (r : RepL p.K M H (valS kvs) vs) : SOk p (M.add q) (S ++ [.dis kvs]) (upd H q (.dK ((keyS kvs).zip vs))) := by
  have k : Kp M H (M.add q) (upd H q (.dK ((keyS kvs).zip vs))) := Kp.dcell hp he
  refine ⟨by simp [Ms.add, s.len], ?_, fun b hb => ?_, fun b hb hm => ?_, fun i b u h1 h2 => ?_, tabs_keep (fun b u e _ nd => by rw [upd_ne (fun z => by rw [z, he] at e; exact nd _ (Option.some.inj e).symm)]; exact e) s.tabs⟩
  · show (M.l ++ [q]).Nodup
    rw [List.nodup_append]
    exact ⟨s.nd, by simp, fun x hx y hy => by rw [List.mem_singleton.mp hy]; exact fun z => hp (z ▸ .inl hx)⟩
  · rw [upd_ne (fun z : b = q => hp (by rw [← z]; exact .inr hb))]; exact s.zl b hb
  · rcases List.mem_append.mp hm with h | h
    · exact s.zd b hb h
    · exact hp (List.mem_singleton.mp h ▸ .inr hb)
  · have h1 : (M.l ++ [q])[i]? = some b := h1
    by_cases hi : i < M.l.length
    · rw [List.getElem?_append_left hi] at h1
      rw [List.getElem?_append_left (by rw [← s.len]; exact hi)] at h2
      exact (s.obj i b u h1 h2).kp k fun vs e _ => by rw [upd_ne (fun z : b = q => hp (by rw [← z]; exact .inl (List.mem_of_getElem? h1)))]; exact e
    · rw [List.getElem?_append_right (by omega)] at h1
      rw [List.getElem?_append_right (by rw [← s.len]; omega)] at h2
      have hb : i - M.l.length = 0 := by
        rcases Nat.eq_zero_or_pos (i - M.l.length) with z | z
        · exact z
        · rw [List.getElem?_eq_none (by simp only [List.length_cons, List.length_nil]; omega)] at h1; cases h1
      rw [hb] at h1
      rw [← s.len, hb] at h2
      cases h1; cases h2
      exact ⟨vs, upd_same, r.kp k⟩
theorem Ext.dcell {M2 : Ms} {H2 : Hp} {q : Addr} {o : HO} (s : SOk p M S H) (hn : H q = none) (e : Ext M H M2 H2) : Ext M H (M2.add q) (upd H2 q o) := by
  obtain ⟨m, e1⟩ := e.pre
  refine ⟨⟨m ++ [q], by show M2.l ++ [q] = _; rw [e1, List.append_assoc]⟩, e.zz, fun b hb hn' => ?_, fun b u hb h hi => ?_, fun b hb => ?_⟩
  · rcases hb with hb | hb
    · rcases List.mem_append.mp hb with h | h
      · exact e.new b (.inl h) hn'
      · rw [List.mem_singleton.mp h]; exact .of_none hn
    · exact e.new b (.inr hb) hn'
  · rw [upd_ne (ne_of_none h hn)]; exact e.imm b u hb h hi
  · rw [upd_ne (fun z : b = q => zl_live s b hb (by rw [z]; exact hn))]; exact e.zk b hb
theorem Kp.enter (s : SOk p M S H) {D : Addr} {o : HO} (hn : H D = none) : Kp M H (M.enter D) (upd H D o) :=
  ⟨fun b u _ e _ => by rw [upd_ne (ne_of_none e hn)]; exact e, fun b u hb e _ h => by
    rcases h with h | h
    · exact hb (.inl h)
    · rcases List.mem_cons.mp h with h | h
      · subst h; rw [hn] at e; cases e
      · exact hb (.inr h), fun _ _ h => h⟩
theorem SOk.enter (s : SOk p M S H) {D : Addr} {vs : List V} (hn : H D = none) : SOk p (M.enter D) S (upd H D (.lst vs)) := by
  have na : D ∉ M := fun h => s.live h hn
  refine ⟨s.len, s.nd, fun b hb => ?_, fun b hb => ?_, fun i b u h1 h2 => (s.obj i b u h1 h2).kp (Kp.enter s hn) fun vs e _ => by rw [upd_ne (ne_of_none e hn)]; exact e, tabs_keep (fun b u e _ _ => by rw [upd_ne (ne_of_none e hn)]; exact e) s.tabs⟩
  · rcases List.mem_cons.mp hb with h | h
    · subst h; exact ⟨vs, upd_same⟩
    · obtain ⟨ws, e⟩ := s.zl b h
      exact ⟨ws, by rw [upd_ne (ne_of_none e hn)]; exact e⟩
  · rcases List.mem_cons.mp hb with h | h
    · subst h; exact fun z => na (.inl z)
    · exact s.zd b h
theorem Kp.put {D : Addr} {o : HO} (hz : D ∈ M) : Kp M H M (upd H D o) :=
  ⟨fun b u hb e _ => by rw [upd_ne (fun z => hb (by rw [z]; exact hz) : b ≠ D)]; exact e, fun _ _ h _ _ => h, fun _ _ h => h⟩
theorem SOk.put (s : SOk p M S H) {D : Addr} {ws vs : List V} (hz : D ∈ M.z) (ho : H D = some (.lst ws)) : SOk p M S (upd H D (.lst vs)) := by
  refine ⟨s.len, s.nd, fun b hb => ?_, s.zd, fun i b u h1 h2 => (s.obj i b u h1 h2).kp (Kp.put (.inr hz)) fun vs e _ => by rw [upd_ne (fun z => s.zd D hz (by rw [← z]; exact List.mem_of_getElem? h1) : b ≠ D)]; exact e, tabs_keep (fun b u e ne _ => by rw [upd_ne (fun z => by rw [z, ho] at e; exact ne ws (Option.some.inj e).symm)]; exact e) s.tabs⟩
  by_cases e : b = D
  · subst e; exact ⟨vs, upd_same⟩
  · rw [upd_ne e]; exact s.zl b hb
/-- the list is done -/
def Ms.leave (M Mz : Ms) : Ms := ⟨Mz.l, M.z⟩
theorem Kp.leave {Mz : Ms} {D : Addr} (hz : Mz.z = D :: M.z) : Kp Mz H (M.leave Mz) H :=
  ⟨fun _ _ _ h _ => h, fun b u hb _ _ h => hb (h.elim .inl fun h => .inr (by rw [hz]; exact List.mem_cons_of_mem _ h)), fun _ _ h => h⟩
theorem SOk.leave {Mz : Ms} {D : Addr} (s : SOk p Mz S H) (hz : Mz.z = D :: M.z) : SOk p (M.leave Mz) S H :=
  ⟨s.len, s.nd, fun b hb => s.zl b (by rw [hz]; exact List.mem_cons_of_mem _ hb), fun b hb => s.zd b (by rw [hz]; exact List.mem_cons_of_mem _ hb), fun i b u h1 h2 => (s.obj i b u h1 h2).kp (Kp.leave hz) fun _ e _ => e, s.tabs⟩
/-- a turn of a comprehension: Mz, H: as it stood; the body; the item appended -/
theorem Ext.turn {Mz Mz' : Ms} {D : Addr} {Hc H4 : Hp} (h : Ext M H (M.leave Mz) Hc) (hz : Mz.z = D :: M.z) (hD : H D = none) (hn : D ∉ M.z) (e : Ext Mz Hc Mz' H4) : Ext M H (M.leave Mz') H4 := by
  have hz' : Mz'.z = D :: M.z := e.zz.trans hz
  refine ⟨?_, rfl, fun a ha hn => ?_, fun a u hn hu hi => ?_, fun a ha => ?_⟩
  · obtain ⟨m1, e1⟩ := h.pre
    obtain ⟨m2, e2⟩ := e.pre
    exact ⟨m1 ++ m2, by show Mz'.l = _; rw [e2]; show Mz.l ++ m2 = _; rw [show Mz.l = M.l ++ m1 from e1, List.append_assoc]⟩
  · by_cases h1 : a ∈ M.leave Mz
    · exact h.new a h1 hn
    · by_cases hd : a = D
      · subst hd; exact .of_none hD
      · refine h.dead hn (e.new a ?_ fun q => ?_)
        · exact ha.elim .inl fun q => .inr (by rw [hz']; exact List.mem_cons_of_mem _ q)
        · refine h1 (q.elim .inl fun q => ?_)
          rw [hz] at q
          exact (List.mem_cons.mp q).elim (fun q => absurd q hd) .inr
  · have hd : a ≠ D := ne_of_none hu hD
    refine e.imm a u (fun q => ?_) (h.imm a u hn hu hi) hi
    refine h.out hn hu hi (q.elim .inl fun q => ?_)
    rw [hz] at q
    exact (List.mem_cons.mp q).elim (fun q => absurd q hd) .inr
  · rw [e.zk a (by rw [hz]; exact List.mem_cons_of_mem _ ha)]
    exact h.zk a ha
theorem Ext.putD {M' : Ms} {D : Addr} {H4 : Hp} {o : HO} (h : Ext M H M' H4) (hD : H D = none) (hn : D ∉ M.z) : Ext M H M' (upd H4 D o) := by
  refine ⟨h.pre, h.zz, h.new, fun a u hn hu hi => ?_, fun a ha => ?_⟩
  · rw [upd_ne (ne_of_none hu hD)]
    exact h.imm a u hn hu hi
  · by_cases hd : a = D
    · subst hd; exact absurd ha hn
    · rw [upd_ne hd]
      exact h.zk a ha
/-- D: the list, ap: what it holds; M1, H1: ahead of it -/
structure CIn (p : Pm) (D : Addr) (M1 : Ms) (H1 : Hp) (Mz : Ms) (Hc : Hp) (S : Store) (ap : List PV) : Prop where
  z : Mz.z = D :: M1.z
  dn : H1 D = none
  dz : D ∉ M1.z
  ok : SOk p Mz S Hc
  ex : Ext M1 H1 (M1.leave Mz) Hc
  acc : ∃ av, Hc D = some (.lst av) ∧ RepL p.K Mz Hc ap av
theorem CIn.start {D : Addr} (s : SOk p M S H) (hn : H D = none) : CIn p D M H (M.enter D) (upd H D (.lst [])) S [] where
  z := rfl
  dn := hn
  dz := fun h => zl_live s D h hn
  ok := s.enter hn
  ex := Ext.alloc s hn
  acc := ⟨[], upd_same, .nil⟩
theorem CIn.ext {D : Addr} {Mz M' : Ms} {Hc H' : Hp} {ap : List PV} (c : CIn p D M H Mz Hc S ap) (e : Ext Mz Hc M' H') (s : SOk p M' S' H') : CIn p D M H M' H' S' ap where
  z := e.zz.trans c.z
  dn := c.dn
  dz := c.dz
  ok := s
  ex := c.ex.turn c.z c.dn c.dz e
  acc := by
    obtain ⟨av, h1, h2⟩ := c.acc
    exact ⟨av, (e.zk D (by rw [c.z]; exact List.mem_cons_self)).trans h1, h2.ext e⟩
theorem CIn.mem {D : Addr} {Mz : Ms} {Hc : Hp} {ap : List PV} (c : CIn p D M H Mz Hc S ap) : D ∈ Mz.z := by rw [c.z]; exact List.mem_cons_self
theorem CIn.put {D : Addr} {Mz : Ms} {Hc : Hp} {ap : List PV} {x : PV} {v : V} (c : CIn p D M H Mz Hc S ap) (r : Rep p.K Mz Hc x v) : ∃ av, Hc D = some (.lst av) ∧ av.length = ap.length ∧ CIn p D M H Mz (upd Hc D (.lst (av ++ [v]))) S (ap ++ [x]) := by
  obtain ⟨av, h1, h2⟩ := c.acc
  have k : Kp Mz Hc Mz (upd Hc D (.lst (av ++ [v]))) := Kp.put (.inr c.mem)
  exact ⟨av, h1, h2.length.symm, c.z, c.dn, c.dz, c.ok.put c.mem h1, c.ex.putD c.dn c.dz, _, upd_same, (h2.kp k).append (.cons (r.kp k) .nil)⟩
/-- what an error is -/
def ERep (p : Pm) (c : Nat) (v : PV) (cls : Value) (d : Option Addr) (H : Hp) : Prop := cls = .ref (p.XA c) ∧ d = none
def Post {α β : Type} (p : Pm) (rep : Ms → Hp → α → β → Prop) (r : R α) (M : Ms) (H : Hp) (Q : β → Hp → Prop) (W : XK) : Prop := match r with
  | .ok v S => ∀ M' H' w, Ext M H M' H' → SOk p M' S H' → rep M' H' v w → Q w H'
  | .exc c v S => ∀ M' H' cls d, Ext M H M' H' → SOk p M' S H' → ERep p c v cls d H' → W cls d H'
  | .bad => False
section
variable {α β γ δ : Type} {rep : Ms → Hp → α → β → Prop} {rep' : Ms → Hp → γ → δ → Prop} {r : R α} {k : α → Store → R γ} {Q : β → Hp → Prop} {Q' : δ → Hp → Prop} {W : XK}
theorem Post.ext (h : Post p rep r M H Q W) (e : Ext M H M' H') : Post p rep r M' H' Q W := by
  cases r with
  | ok v S => exact fun M2 H2 w e2 => h M2 H2 w (e.trans e2)
  | exc c v S => exact fun M2 H2 cls d e2 => h M2 H2 cls d (e.trans e2)
  | bad => exact h
theorem Post.bind (h : Post p rep' (r.bind k) M H Q' W) :
    Post p rep r M H (fun x H1 => ∃ M1 S1 v, Ext M H M1 H1 ∧ SOk p M1 S1 H1 ∧ rep M1 H1 v x ∧ Post p rep' (k v S1) M1 H1 Q' W) W := by
  cases r with
  | ok v S =>
    intro M1 H1 w e s hr
    have h' : Post p rep' (k v S) M H Q' W := h
    exact ⟨M1, S, v, e, s, hr, h'.ext e⟩
  | exc c v S => exact h
  | bad => exact h
theorem Post.done {v : α} {w : β} (h : Post p rep (.ok v S) M H Q W) (s : SOk p M S H) (hr : rep M H v w) : Q w H := h M H w (Ext.refl _ _) s hr
theorem CIn.fin {D : Addr} {Mz : Ms} {Hc : Hp} {vs : List PV} {Q : VK} (c : CIn p D M H Mz Hc S vs) (h : Post p (Rep p.K) (.ok (.lst vs) S) M H Q W) : Q (.ref D) Hc := by
  obtain ⟨av, h1, h2⟩ := c.acc
  refine h (M.leave Mz) Hc (.ref D) c.ex (c.ok.leave c.z) ?_
  unfold Rep
  exact ⟨D, av, rfl, ⟨h1, fun q => q.elim (c.ok.zd D c.mem) c.dz⟩, h2.kp (Kp.leave c.z)⟩
theorem CIn.finm {D : Addr} {Mz : Ms} {Hc : Hp} {vs : List PV} {Q : VK} (c : CIn p D M H Mz Hc S vs) (h : Post p (Rep p.K) (.ok (.ptr S.length) (S ++ [.lst vs])) M H Q W) : Q (.ref D) Hc := by
  obtain ⟨av, h1, h2⟩ := c.acc
  have nl : D ∉ Mz.l := c.ok.zd D c.mem
  have k : Kp Mz Hc ((M.leave Mz).add D) Hc := by
    refine ⟨fun _ _ _ h _ => h, fun a u ha _ _ q => ha ?_, fun n a e => ?_⟩
    · rcases q with q | q
      · rcases List.mem_append.mp q with q | q
        · exact .inl q
        · rw [List.mem_singleton.mp q]; exact .inr c.mem
      · exact .inr (by rw [c.z]; exact List.mem_cons_of_mem _ q)
    · show (Mz.l ++ [D])[n]? = some a
      rw [List.getElem?_append_left (List.getElem?_eq_some_iff.mp e).1]; exact e
  refine h ((M.leave Mz).add D) Hc (.ref D) ⟨?_, rfl, fun a ha hn => ?_, c.ex.imm, c.ex.zk⟩ ⟨?_, ?_, ?_, ?_, ?_, c.ok.tabs⟩ ?_
  · obtain ⟨m, e⟩ := c.ex.pre
    exact ⟨m ++ [D], by show (M.leave Mz).l ++ [D] = _; rw [e, List.append_assoc]⟩
  · rcases ha with q | q
    · rcases List.mem_append.mp q with q | q
      · exact c.ex.new a (.inl q) hn
      · rw [List.mem_singleton.mp q]; exact .of_none c.dn
    · exact absurd (.inr q) hn
  · show (Mz.l ++ [D]).length = _
    simp [c.ok.len]
  · show (Mz.l ++ [D]).Nodup
    rw [List.nodup_append]
    exact ⟨c.ok.nd, by simp, fun x hx y hy => by rw [List.mem_singleton.mp hy]; exact fun z => nl (z ▸ hx)⟩
  · exact fun b hb => c.ok.zl b (by rw [c.z]; exact List.mem_cons_of_mem _ hb)
  · intro b hb hm
    rcases List.mem_append.mp hm with q | q
    · exact c.ok.zd b (by rw [c.z]; exact List.mem_cons_of_mem _ hb) q
    · rw [List.mem_singleton.mp q] at hb; exact c.dz hb
  · intro i b u e1 e2
    have e1 : (Mz.l ++ [D])[i]? = some b := e1
    by_cases hi : i < Mz.l.length
    · rw [List.getElem?_append_left hi] at e1
      rw [List.getElem?_append_left (by rw [← c.ok.len]; exact hi)] at e2
      exact (c.ok.obj i b u e1 e2).kp k fun _ e _ => e
    · rw [List.getElem?_append_right (by omega)] at e1
      rw [List.getElem?_append_right (by rw [← c.ok.len]; omega)] at e2
      have hb : i - Mz.l.length = 0 := by
        rcases Nat.eq_zero_or_pos (i - Mz.l.length) with z | z
        · exact z
        · rw [List.getElem?_eq_none (by simp only [List.length_cons, List.length_nil]; omega)] at e1; cases e1
      rw [hb] at e1
      rw [← c.ok.len, hb] at e2
      cases e1; cases e2
      exact ⟨av, h1, h2.kp k⟩
  · unfold Rep
    exact ⟨D, rfl, by show (Mz.l ++ [D])[S.length]? = some D; rw [← c.ok.len]; simp⟩
theorem Post.mono {Q2 : β → Hp → Prop} {W2 : XK} (h : Post p rep r M H Q W) (hq : ∀ w H', Q w H' → Q2 w H') (hw : ∀ c d H', W c d H' → W2 c d H') : Post p rep r M H Q2 W2 := by
  cases r with
  | ok v S => exact fun M2 H2 w e2 s r => hq _ _ (h M2 H2 w e2 s r)
  | exc c v S => exact fun M2 H2 cls d e2 s r => hw _ _ _ (h M2 H2 cls d e2 s r)
  | bad => exact h
end
end G
set_option maxHeartbeats 1000000
namespace G
open PySem PySem.Spec PyProof.Rows L2
variable {p : Pm} {X : Cx} {W : WX}
def EnvOk (K : PySem.W.Frag) (M : Ms) (H : Hp) (ρ : Env) (σ : L2.St) : Prop := ρ.length = σ.length ∧ ∀ (i : Nat) (v : PV), ρ[i]? = some (some v) → ∃ w, σ[i]? = some (some w) ∧ Rep K M H v w
theorem EnvOk.ext {K : PySem.W.Frag} {M M' : Ms} {H H' : Hp} {ρ : Env} {σ : L2.St} (h : EnvOk K M H ρ σ) (e : Ext M H M' H') : EnvOk K M' H' ρ σ :=
  ⟨h.1, fun i v q => let ⟨w, a, b⟩ := h.2 i v q; ⟨w, a, b.ext e⟩⟩
theorem EnvOk.set {K : PySem.W.Frag} {M : Ms} {H : Hp} {ρ : Env} {σ : L2.St} {x : PV} {v : V} (h : EnvOk K M H ρ σ) (r : Rep K M H x v) (i : Nat) : EnvOk K M H (ρ.set i (some x)) (σ.set i (some v)) := by
  refine ⟨by rw [List.length_set, List.length_set]; exact h.1, fun j y e => ?_⟩
  by_cases hj : i = j
  · subst hj
    by_cases hl : i < ρ.length
    · rw [List.getElem?_set_self hl] at e
      cases e
      exact ⟨v, List.getElem?_set_self (by rw [← h.1]; exact hl), r⟩
    · rw [List.getElem?_eq_none (by simpa using Nat.le_of_not_lt hl)] at e; cases e
  · rw [List.getElem?_set_ne hj] at e ⊢
    exact h.2 j y e
abbrev Ev := Env → Store → R PV
abbrev wAt (W : WX) (σ : L2.St) : XK := fun c d H => W c d σ H
/-- an expression's reading, by the evaluator -/
def tD (p : Pm) (r : Ev) (W : WX) : TE := fun σ H Q => ∃ ρ M S, EnvOk p.K M H ρ σ ∧ SOk p M S H ∧ Post p (Rep p.K) (r ρ S) M H Q (wAt W σ)
/-- a test's -/
def repB : Ms → Hp → Bool → Bool → Prop := fun _ _ a b => a = b
def tDT (p : Pm) (r : Ev) (W : WX) : TT := fun σ H Q => ∃ ρ M S, EnvOk p.K M H ρ σ ∧ SOk p M S H ∧ Post p repB ((r ρ S).bind asT) M H Q (wAt W σ)
/-- arguments' -/
def tDA (p : Pm) (r : Env → Store → R (List PV)) (W : WX) : TA := fun σ H Q => ∃ ρ M S, EnvOk p.K M H ρ σ ∧ SOk p M S H ∧ Post p (RepL p.K) (r ρ S) M H Q (wAt W σ)
/-- a value's state goes on -/
structure At (p : Pm) (X : Cx) (pins : List (Addr × Obj)) (σ : L2.St) (s : Shared) (ρ : Env) (M : Ms) (S : Store) (H : Hp) : Prop where
  inv : Inv X pins σ H s
  env : EnvOk p.K M H ρ σ
  ok : SOk p M S H
/-- one expression, what follows by the evaluator -/
theorem one {α β : Type} {rep : Ms → Hp → α → β → Prop} {Q : β → Hp → Prop} {e : Expr} {r : Ev} {k : Env → PV → Store → R α} (h1 : PE X e (tD p r W)) {pins : List (Addr × Obj)} {s : Shared} {σ : L2.St} {H : Hp} {ρ : Env} {M : Ms} {S : Store}
    (A : At p X pins σ s ρ M S H) (h : Post p rep ((r ρ S).bind fun x S1 => k ρ x S1) M H Q (wAt W σ)) {Qf : Value → Shared → Prop}
    (hf : ∀ u s1 x v M1 S1 H1, Ext M H M1 H1 → At p X pins σ s1 ρ M1 S1 H1 → Rep p.K M1 H1 x v → RelV v u → Post p rep (k ρ x S1) M1 H1 Q (wAt W σ) → Qf u s1) :
    wpAny (model X.prog X.w) X.A (eval e X.env) Qf X.xe s := by
  refine thn (h1.run pins s σ H _ A.inv ⟨ρ, M, S, A.env, A.ok, h.bind⟩) fun u s1 hh => ?_
  obtain ⟨v, H1, I1, r1, M1, S1, x, e1, s1', rp, q⟩ := hh
  exact hf u s1 x v M1 S1 H1 e1 ⟨I1, A.env.ext e1, s1'⟩ rp r1 q
theorem oneTT {α β : Type} {rep : Ms → Hp → α → β → Prop} {Q : β → Hp → Prop} {e : Expr} {r : Ev} {k : Env → Bool → Store → R α} (h1 : PT X e (tDT p r W)) {pins : List (Addr × Obj)} {s : Shared} {σ : L2.St} {H : Hp} {ρ : Env} {M : Ms} {S : Store}
    (A : At p X pins σ s ρ M S H) (h : Post p rep (((r ρ S).bind asT).bind fun x S1 => k ρ x S1) M H Q (wAt W σ)) {Qf : Bool → Shared → Prop}
    (hf : ∀ b s1 M1 S1 H1, Ext M H M1 H1 → At p X pins σ s1 ρ M1 S1 H1 → Post p rep (k ρ b S1) M1 H1 Q (wAt W σ) → Qf b s1) :
    wpAny (model X.prog X.w) X.A (isTrue e X.env (eval e X.env)) Qf X.xe s := by
  refine thn (h1.run pins s σ H _ A.inv ⟨ρ, M, S, A.env, A.ok, h.bind⟩) fun b s1 hh => ?_
  obtain ⟨H1, I1, M1, S1, x, e1, s1', rp, q⟩ := hh
  have rp : x = b := rp
  subst rp
  exact hf x s1 M1 S1 H1 e1 ⟨I1, A.env.ext e1, s1'⟩ q
theorem asB_asT {α : Type} {r : R PV} {k : Bool → Store → R α} : (r.bind asB).bind k = .bad ∨ (r.bind asB).bind k = (r.bind asT).bind k := by
  cases r with
  | ok v S => cases v <;> first | exact .inr rfl | exact .inl rfl | (show _ ∨ _; exact .inl rfl)
  | exc c v S => exact .inr rfl
  | bad => exact .inl rfl
theorem asT_of {r : R PV} {b : Bool} {S : Store} (h : r.bind asB = .ok b S) : r.bind asT = .ok b S := by
  cases r with
  | ok v S1 => cases v <;> first | exact h | cases h
  | exc c v S1 => cases h
  | bad => cases h
theorem Post.asT {r : R PV} {M : Ms} {H : Hp} {Q : Bool → Hp → Prop} {W' : XK} (h : Post p repB (r.bind asB) M H Q W') : Post p repB (r.bind asT) M H Q W' := by
  cases r with
  | ok v S => cases v <;> first | exact h | exact (show False from h).elim
  | exc c v S => exact h
  | bad => exact h
theorem oneT {α β : Type} {rep : Ms → Hp → α → β → Prop} {Q : β → Hp → Prop} {e : Expr} {r : Ev} {k : Env → Bool → Store → R α} (h1 : PT X e (tDT p r W)) {pins : List (Addr × Obj)} {s : Shared} {σ : L2.St} {H : Hp} {ρ : Env} {M : Ms} {S : Store}
    (A : At p X pins σ s ρ M S H) (h : Post p rep (((r ρ S).bind asB).bind fun x S1 => k ρ x S1) M H Q (wAt W σ)) {Qf : Bool → Shared → Prop}
    (hf : ∀ b s1 M1 S1 H1, Ext M H M1 H1 → At p X pins σ s1 ρ M1 S1 H1 → Post p rep (k ρ b S1) M1 H1 Q (wAt W σ) → Qf b s1) :
    wpAny (model X.prog X.w) X.A (isTrue e X.env (eval e X.env)) Qf X.xe s := by
  rcases asB_asT (r := r ρ S) (k := fun x S1 => k ρ x S1) with e | e
  · rw [e] at h; exact (show False from h).elim
  · rw [e] at h; exact oneTT h1 A h hf
theorem oneA {α β : Type} {rep : Ms → Hp → α → β → Prop} {Q : β → Hp → Prop} {es : List Expr} {pos : Pos} {r : Env → Store → R (List PV)} {k : Env → List PV → Store → R α} (h1 : PA X es (tDA p r W)) {pins : List (Addr × Obj)} {s : Shared} {σ : L2.St} {H : Hp} {ρ : Env} {M : Ms} {S : Store}
    (A : At p X pins σ s ρ M S H) (h : Post p rep ((r ρ S).bind fun x S1 => k ρ x S1) M H Q (wAt W σ)) {Qf : List Value → Shared → Prop}
    (hf : ∀ us s1 xs vs M1 S1 H1, Ext M H M1 H1 → At p X pins σ s1 ρ M1 S1 H1 → RepL p.K M1 H1 xs vs → Vals vs us → Post p rep (k ρ xs S1) M1 H1 Q (wAt W σ) → Qf us s1) :
    wpAny (model X.prog X.w) X.A (spliced (backTo pos (starEach es X.env))) Qf X.xe s := by
  refine thn (h1.run pos pins s σ H _ A.inv ⟨ρ, M, S, A.env, A.ok, h.bind⟩) fun u s1 hh => ?_
  obtain ⟨v, H1, I1, r1, M1, S1, x, e1, s1', rp, q⟩ := hh
  exact hf u s1 x v M1 S1 H1 e1 ⟨I1, A.env.ext e1, s1'⟩ rp r1 q
/-- the end of an expression -/
theorem At.fin {pins : List (Addr × Obj)} {σ : L2.St} {s : Shared} {ρ : Env} {M : Ms} {S : Store} {H : Hp} {x : PV} {v : V} {u : Value} {Q : VK} {W' : XK} (A : At p X pins σ s ρ M S H) (h : Post p (Rep p.K) (.ok x S) M H Q W') (r : Rep p.K M H x v) (rv : RelV v u) : EP X pins σ Q u s :=
  ⟨v, H, A.inv, rv, h.done A.ok r⟩
/-- from the evaluator's reading to a wp -/
theorem peOf {e : Expr} {r : Ev} (h : ∀ pins s σ H ρ M S Q, At p X pins σ s ρ M S H → Post p (Rep p.K) (r ρ S) M H Q (wAt W σ) → wpAny (model X.prog X.w) X.A (eval e X.env) (EP X pins σ Q) X.xe s) : PE X e (tD p r W) :=
  ⟨fun pins s σ H Q I ⟨ρ, M, S, he, hs, hp⟩ => h pins s σ H ρ M S Q ⟨I, he, hs⟩ hp⟩
theorem ptOf {e : Expr} {r : Ev} (h : ∀ pins s σ H ρ M S Q, At p X pins σ s ρ M S H → Post p repB ((r ρ S).bind asT) M H Q (wAt W σ) → wpAny (model X.prog X.w) X.A (isTrue e X.env (eval e X.env)) (TP X pins σ Q) X.xe s) : PT X e (tDT p r W) :=
  ⟨fun pins s σ H Q I ⟨ρ, M, S, he, hs, hp⟩ => h pins s σ H ρ M S Q ⟨I, he, hs⟩ hp⟩
theorem paOf {es : List Expr} {r : Env → Store → R (List PV)} (h : ∀ pos pins s σ H ρ M S Q, At p X pins σ s ρ M S H → Post p (RepL p.K) (r ρ S) M H Q (wAt W σ) → wpAny (model X.prog X.w) X.A (spliced (backTo pos (starEach es X.env))) (AP X pins σ Q) X.xe s) : PA X es (tDA p r W) :=
  ⟨fun pos pins s σ H Q I ⟨ρ, M, S, he, hs, hp⟩ => h pos pins s σ H ρ M S Q ⟨I, he, hs⟩ hp⟩
theorem s_int {i j pos} : PE X (.Constant (.int i) j pos) (tD p (fun _ S => .ok (.int i) S) W) :=
  peOf fun pins s σ H ρ M S Q A h => wpAny_Constant_int ⟨.int i, H, A.inv.tok _, ⟨_, rfl⟩, h.done A.ok (by unfold Rep; rfl)⟩
theorem s_bl {b j pos} : PE X (.Constant (.bool b) j pos) (tD p (fun _ S => .ok (.bl b) S) W) :=
  peOf fun pins s σ H ρ M S Q A h => Constant_bool (A.fin h (v := .bl b) (by unfold Rep; rfl) rfl)
theorem s_non {j pos} : PE X (.Constant .none j pos) (tD p (fun _ S => .ok .non S) W) :=
  peOf fun pins s σ H ρ M S Q A h => Constant_none (A.fin h (v := .non) (by unfold Rep; rfl) rfl)
theorem SS_cps (s : Str) : SS s.cps.toList = s := by cases s; rfl
theorem s_str {x j pos} (hx : okS x.cps.toList = true) : PE X (.Constant (.str x) j pos) (tD p (fun _ S => .ok (.str x.cps.toList) S) W) :=
  peOf fun pins s σ H ρ M S Q A h => Calls.Constant_str ⟨.str x, H, A.inv.tok _, ⟨_, rfl⟩, h.done A.ok (by unfold Rep; exact ⟨by rw [SS_cps], hx⟩)⟩
theorem s_var {i : Nat} {x : Str} {pos : Pos} (hN : X.N[i]? = some x) (hv : Vis X.env.scope x) (hd : (x == ("__debug__" : Str)) = false) (hcd : (x == ("__classdict__" : Str)) = false) :
    PE X (.Name x pos) (tD p (fun ρ S => match ρ[i]? with | some (some v) => .ok v S | _ => .bad) W) := by
  refine peOf fun pins s σ H ρ M S Q A h => ?_
  revert h
  split
  · rename_i v e
    intro h
    obtain ⟨w, e2, r⟩ := A.env.2 i v e
    exact (pe_var hN hv hd hcd).run pins s σ H Q A.inv ⟨w, e2, h.done A.ok r⟩
  · intro h; exact h.elim
def cV : Ct → V
  | .non => .non | .bl b => .bl b | .int i => .int i | .str s => .str (SS s)
def okC : Ct → Bool
  | .str s => okS s
  | _ => true
theorem rep_c {K M H} (c : Ct) (h : okC c = true) : Rep K M H c.pv (cV c) := by
  cases c <;> unfold Ct.pv Rep cV
  · rfl
  · rfl
  · rfl
  · exact ⟨rfl, h⟩
theorem s_glob {x : Str} {c : Ct} {u : Value} {pos : Pos} (hg : Gl X x) (hm : X.mg x = some u) (r : RelV (cV c) u) (hc : okC c = true) (hd : (x == ("__debug__" : Str)) = false) : PE X (.Name x pos) (tD p (fun _ S => .ok c.pv S) W) :=
  peOf fun pins s σ H ρ M S Q A h => (pe_glob hg hm r hd).run pins s σ H Q A.inv (h.done A.ok (rep_c c hc))
/-- a value's test -/
theorem ptVal {e : Expr} {r : Ev} (h : PE X e (tD p r W)) (he : ∀ whole, isTrue e X.env whole = (do let v ← whole; standAt e.pos; holding [v] (truthy v))) : PT X e (tDT p r W) := by
  refine ptOf fun pins s σ H ρ M S Q A q => ?_
  refine isTrue_plain (one (k := fun _ => asT) h A q fun u s1 x v M1 S1 H1 e1 A1 rp rv q1 => ?_) (he _)
  cases x with
  | bl b =>
    unfold Rep at rp
    subst rp
    cases (show u = Value.bool b from rv)
    exact wpAny_truthy_bool ⟨H1, A1.inv, q1.done A1.ok rfl⟩
  | int i =>
    unfold Rep at rp
    subst rp
    obtain ⟨t, rfl⟩ := (show ∃ t, u = Value.int i t from rv)
    exact PySem.P.truthy_int ⟨H1, A1.inv, q1.done A1.ok rfl⟩
  | _ => exact (show False from q1).elim
def notR (r : Ev) : Ev := fun ρ S => ((r ρ S).bind asT).bind fun d S1 => .ok (.bl (!d)) S1
def andR (r t : Ev) : Ev := fun ρ S => ((r ρ S).bind asB).bind fun d S1 => match d with
  | true => t ρ S1
  | false => .ok (.bl false) S1
def orR (r t : Ev) : Ev := fun ρ S => ((r ρ S).bind asB).bind fun d S1 => match d with
  | true => .ok (.bl true) S1
  | false => t ρ S1
def iteR (c r t : Ev) : Ev := fun ρ S => ((c ρ S).bind asB).bind fun d S1 => match d with
  | true => r ρ S1
  | false => t ρ S1
theorem bind_ok {α β : Type} {a : α} {S : Store} {k : α → Store → R β} : (R.ok a S).bind k = k a S := rfl
theorem bind_assoc {α β γ : Type} (r : R α) (k : α → Store → R β) (l : β → Store → R γ) : (r.bind k).bind l = r.bind fun a S => (k a S).bind l := by
  cases r <;> rfl
variable {a b c : Expr} {ra rb rc : Ev} {pos : Pos}
theorem s_notT (ha : PT X a (tDT p ra W)) : PT X (.UnaryOp .Not a pos) (tDT p (notR ra) W) := by
  refine ptOf fun pins s σ H ρ M S Q A q => ?_
  refine isTrue_not (oneTT (rep := repB) (k := fun _ d S1 => .ok (!d) S1) ha A (by unfold notR at q; rw [bind_assoc] at q; exact q) fun b s1 M1 S1 H1 e1 A1 q1 => ?_)
  exact ⟨H1, A1.inv, q1.done A1.ok rfl⟩
theorem s_not (ha : PE X a (tD p ra W)) : PE X (.UnaryOp .Not a pos) (tD p (notR ra) W) := by
  refine peOf fun pins s σ H ρ M S Q A q => ?_
  unfold notR at q
  rw [bind_assoc] at q
  refine UnaryOp_ (one (k := fun _ x S => (asT x S).bind fun d S1 => .ok (PV.bl (!d)) S1) ha A q fun u s1 x v M1 S1 H1 e1 A1 rp rv q1 => ?_)
  cases x with
  | bl b =>
    unfold Rep at rp
    subst rp
    cases (show u = Value.bool b from rv)
    exact not_of (wpAny_truthy_bool (A1.fin (v := .bl (!b)) q1 (by unfold Rep; rfl) rfl))
  | int i =>
    unfold Rep at rp
    subst rp
    obtain ⟨t, rfl⟩ := (show ∃ t, u = Value.int i t from rv)
    exact not_of (PySem.P.truthy_int (A1.fin (v := .bl (!(i != 0))) q1 (by unfold Rep; rfl) rfl))
  | _ => exact (show False from q1).elim
/-- two values one behind the other -/
theorem two {α β : Type} {rep : Ms → Hp → α → β → Prop} {Q : β → Hp → Prop} {k : Env → PV → PV → Store → R α} (ha : PE X a (tD p ra W)) (hb : PE X b (tD p rb W)) {pins : List (Addr × Obj)} {s : Shared} {σ : L2.St} {H : Hp} {ρ : Env} {M : Ms} {S : Store}
    (A : At p X pins σ s ρ M S H) (h : Post p rep ((ra ρ S).bind fun x S1 => (rb ρ S1).bind fun y S2 => k ρ x y S2) M H Q (wAt W σ)) {δ : Type} {Qf : δ → Shared → Prop} {f : Value → Value → Sem δ}
    (hf : ∀ u w s1 x y v v2 M1 S1 H1, Ext M H M1 H1 → At p X pins σ s1 ρ M1 S1 H1 → Rep p.K M1 H1 x v → Rep p.K M1 H1 y v2 → RelV v u → RelV v2 w → Post p rep (k ρ x y S1) M1 H1 Q (wAt W σ) → wpAny (model X.prog X.w) X.A (f u w) Qf X.xe s1) :
    wpAny (model X.prog X.w) X.A (eval a X.env) (fun u s₁ => wpAny (model X.prog X.w) X.A (eval b X.env) (fun w s₂ => wpAny (model X.prog X.w) X.A (f u w) Qf X.xe s₂) X.xe s₁) X.xe s := by
  refine one (k := fun ρ x S1 => (rb ρ S1).bind fun y S2 => k ρ x y S2) ha A h fun u s1 x v M1 S1 H1 e1 A1 rp rv q1 => ?_
  refine one (k := fun ρ y S2 => k ρ x y S2) hb A1 q1 fun w s2 y v2 M2 S2 H2 e2 A2 rp2 rv2 q2 => ?_
  exact hf u w s2 x y v v2 M2 S2 H2 (e1.trans e2) A2 (rp.ext e2) rp2 rv rv2 q2
/-- a two-place operation of the machine and its meaning -/
def OpB (p : Pm) (X : Cx) (f : Value → Value → Sem Value) (o : B2) : Prop :=
  ∀ (pins : List (Addr × Obj)) (s : Shared) (σ : L2.St) (ρ : Env) (M : Ms) (S : Store) (H : Hp) (x y : PV) (v v2 : V) (u w : Value) (Q : VK) (W' : XK), At p X pins σ s ρ M S H → Rep p.K M H x v → Rep p.K M H y v2 → RelV v u → RelV v2 w →
    Post p (Rep p.K) (b2 o x y S) M H Q W' → wpAny (model X.prog X.w) X.A (f u w) (EP X pins σ Q) X.xe s
def binR (o : B2) (ra rb : Ev) : Ev := fun ρ S => (ra ρ S).bind fun x S1 => (rb ρ S1).bind fun y S2 => b2 o x y S2
theorem s_bin {op : Operator} {o : B2} (ho : OpB p X (binaryOp op) o) (ha : PE X a (tD p ra W)) (hb : PE X b (tD p rb W)) : PE X (.BinOp a op b pos) (tD p (binR o ra rb) W) := by
  refine peOf fun pins s σ H ρ M S Q A q => ?_
  exact wpAny_BinOp (two (k := fun _ x y S => b2 o x y S) ha hb A q fun u w s1 x y v v2 M1 S1 H1 e1 A1 r1 r2 rv rv2 q1 => ho pins s1 σ ρ M1 S1 H1 x y v v2 u w Q _ A1 r1 r2 rv rv2 q1)
theorem s_cmp {op : CmpOp} {o : B2} (ho : OpB p X (compareOp op) o) (ha : PE X a (tD p ra W)) (hb : PE X b (tD p rb W)) (hm : behindInMarks op b = false) : PE X (.Compare a [op] [b] pos) (tD p (binR o ra rb) W) := by
  refine peOf fun pins s σ H ρ M S Q A q => ?_
  exact wpAny_Compare1 (two (k := fun _ x y S => b2 o x y S) ha hb A q fun u w s1 x y v v2 M1 S1 H1 e1 A1 r1 r2 rv rv2 q1 => ho pins s1 σ ρ M1 S1 H1 x y v v2 u w Q _ A1 r1 r2 rv rv2 q1) hm
theorem s_cmpT {op : CmpOp} {o : B2} (ho : OpB p X (compareOp op) o) (ha : PE X a (tD p ra W)) (hb : PE X b (tD p rb W)) (hm : behindInMarks op b = false) : PT X (.Compare a [op] [b] pos) (tDT p (binR o ra rb) W) := by
  refine ptOf fun pins s σ H ρ M S Q A q => ?_
  unfold binR at q
  rw [bind_assoc] at q
  simp only [bind_assoc] at q
  refine wpAny_isTrue_Compare1 (two (k := fun _ x y S => (b2 o x y S).bind asT) (Qf := fun c s3 => wpAny (model X.prog X.w) X.A (truthy c) (TP X pins σ Q) X.xe s3) ha hb A q fun u w s1 x y v v2 M1 S1 H1 e1 A1 r1 r2 rv rv2 q1 => ?_) hm
  refine thn (ho pins s1 σ ρ M1 S1 H1 x y v v2 u w _ _ A1 r1 r2 rv rv2 q1.bind) fun c s3 ⟨v3, H3, I3, r3, M3, S3, x3, e3, ok3, rp3, q3⟩ => ?_
  cases x3 with
  | bl d =>
    unfold Rep at rp3
    subst rp3
    cases (show c = Value.bool d from r3)
    exact wpAny_truthy_bool ⟨H3, I3, q3.done ok3 rfl⟩
  | int d =>
    unfold Rep at rp3
    subst rp3
    obtain ⟨t, rfl⟩ := (show ∃ t, c = Value.int d t from r3)
    exact PySem.P.truthy_int ⟨H3, I3, q3.done ok3 rfl⟩
  | _ => exact (show False from q3).elim
end G
set_option maxHeartbeats 1000000
namespace G
open PySem PySem.Spec PyProof.Rows L2
variable {p : Pm} {X : Cx} {W : WX} {a b c : Expr} {ra rb rc : Ev} {pos : Pos} {rest : List Expr}
theorem s_and1T (ha : PT X a (tDT p ra W)) : PW X (.BoolOp .And [a] pos) (tDT p ra W) := pw_and1 ha
theorem s_or1T (ha : PT X a (tDT p ra W)) : PW X (.BoolOp .Or [a] pos) (tDT p ra W) := pw_or1 ha
theorem s_andT (ha : PT X a (tDT p ra W)) (hb : PW X (.BoolOp .And (b :: rest) pos) (tDT p rb W)) : PW X (.BoolOp .And (a :: b :: rest) pos) (tDT p (andR ra rb) W) := by
  refine ⟨fun wh pins s σ H Q I ⟨ρ, M, S, he, hs, q⟩ => ?_⟩
  unfold andR at q
  rw [bind_assoc] at q
  refine isTrue_and (oneT (rep := repB) (k := fun ρ d S1 => (match d with | true => rb ρ S1 | false => R.ok (PV.bl false) S1).bind asT) ha ⟨I, he, hs⟩ q fun d s1 M1 S1 H1 e1 A1 q1 => ?_)
  cases d with
  | true => exact hb.run wh pins s1 σ H1 Q A1.inv ⟨ρ, M1, S1, A1.env, A1.ok, q1⟩
  | false => exact ⟨H1, A1.inv, q1.done A1.ok rfl⟩
theorem s_orT (ha : PT X a (tDT p ra W)) (hb : PW X (.BoolOp .Or (b :: rest) pos) (tDT p rb W)) : PW X (.BoolOp .Or (a :: b :: rest) pos) (tDT p (orR ra rb) W) := by
  refine ⟨fun wh pins s σ H Q I ⟨ρ, M, S, he, hs, q⟩ => ?_⟩
  unfold orR at q
  rw [bind_assoc] at q
  refine isTrue_or (oneT (rep := repB) (k := fun ρ d S1 => (match d with | true => R.ok (PV.bl true) S1 | false => rb ρ S1).bind asT) ha ⟨I, he, hs⟩ q fun d s1 M1 S1 H1 e1 A1 q1 => ?_)
  cases d with
  | false => exact hb.run wh pins s1 σ H1 Q A1.inv ⟨ρ, M1, S1, A1.env, A1.ok, q1⟩
  | true => exact ⟨H1, A1.inv, q1.done A1.ok rfl⟩
theorem s_one {op} (ha : PE X a (tD p ra W)) : PE X (.BoolOp op [a] pos) (tD p ra W) := ⟨fun pins s σ H Q I hw => BoolOp_one (ha.run pins s σ H Q I hw)⟩
theorem s_and (ha : PE X a (tD p ra W)) (hb : PE X (.BoolOp .And (b :: rest) pos) (tD p rb W)) : PE X (.BoolOp .And (a :: b :: rest) pos) (tD p (andR ra rb) W) := by
  refine peOf fun pins s σ H ρ M S Q A q => ?_
  unfold andR at q
  rw [bind_assoc] at q
  refine BoolOp_and (one (k := fun ρ x S => (asB x S).bind fun d S1 => match d with | true => rb ρ S1 | false => R.ok (PV.bl false) S1) ha A q fun u s1 x v M1 S1 H1 e1 A1 rp rv q1 => ?_)
  cases x with
  | bl d =>
    unfold Rep at rp
    subst rp
    cases (show u = Value.bool d from rv)
    refine wpAny_truthy_bool ?_
    cases d with
    | true => exact hb.run pins s1 σ H1 Q A1.inv ⟨ρ, M1, S1, A1.env, A1.ok, q1⟩
    | false => exact A1.fin (v := .bl false) q1 (by unfold Rep; rfl) rfl
  | _ => exact (show False from q1).elim
theorem s_or (ha : PE X a (tD p ra W)) (hb : PE X (.BoolOp .Or (b :: rest) pos) (tD p rb W)) : PE X (.BoolOp .Or (a :: b :: rest) pos) (tD p (orR ra rb) W) := by
  refine peOf fun pins s σ H ρ M S Q A q => ?_
  unfold orR at q
  rw [bind_assoc] at q
  refine BoolOp_or (one (k := fun ρ x S => (asB x S).bind fun d S1 => match d with | true => R.ok (PV.bl true) S1 | false => rb ρ S1) ha A q fun u s1 x v M1 S1 H1 e1 A1 rp rv q1 => ?_)
  cases x with
  | bl d =>
    unfold Rep at rp
    subst rp
    cases (show u = Value.bool d from rv)
    refine wpAny_truthy_bool ?_
    cases d with
    | false => exact hb.run pins s1 σ H1 Q A1.inv ⟨ρ, M1, S1, A1.env, A1.ok, q1⟩
    | true => exact A1.fin (v := .bl true) q1 (by unfold Rep; rfl) rfl
  | _ => exact (show False from q1).elim
theorem s_ite (hc : PT X c (tDT p rc W)) (ha : PE X a (tD p ra W)) (hb : PE X b (tD p rb W)) : PE X (.IfExp c a b pos) (tD p (iteR rc ra rb) W) := by
  refine peOf fun pins s σ H ρ M S Q A q => ?_
  refine wpAny_IfExp (oneT (k := fun ρ d S1 => match d with | true => ra ρ S1 | false => rb ρ S1) hc A q fun d s1 M1 S1 H1 e1 A1 q1 => ?_)
  cases d with
  | true => exact ha.run pins s1 σ H1 Q A1.inv ⟨ρ, M1, S1, A1.env, A1.ok, q1⟩
  | false => exact hb.run pins s1 σ H1 Q A1.inv ⟨ρ, M1, S1, A1.env, A1.ok, q1⟩
def chnR (o o' : B2) (ra rb rc : Ev) : Ev := fun ρ S => (ra ρ S).bind fun x S1 => (rb ρ S1).bind fun y S2 => ((b2 o x y S2).bind asB).bind fun d S3 => match d with
  | true => (rc ρ S3).bind fun z S4 => b2 o' y z S4
  | false => .ok (.bl false) S3
theorem s_chn {op op' : CmpOp} {o o' : B2} (ho : OpB p X (compareOp op) o) (ho' : OpB p X (compareOp op') o') (ha : PE X a (tD p ra W)) (hb : PE X b (tD p rb W)) (hc : PE X c (tD p rc W)) (hm : behindInMarks op' c = false) :
    PE X (.Compare a [op, op'] [b, c] pos) (tD p (chnR o o' ra rb rc) W) := by
  refine peOf fun pins s σ H ρ M S Q A q => ?_
  refine Compare_chain (one (k := fun ρ x S1 => (rb ρ S1).bind fun y S2 => ((b2 o x y S2).bind asB).bind fun d S3 => match d with
    | true => (rc ρ S3).bind fun z S4 => b2 o' y z S4
    | false => .ok (.bl false) S3) ha A q fun u s1 x v M1 S1 H1 e1 A1 rp rv q1 => chain_link ?_) (by show lastMarks [op, op'] [b, c] = false; exact hm)
  refine one (k := fun ρ y S2 => ((b2 o x y S2).bind asB).bind fun d S3 => match d with
    | true => (rc ρ S3).bind fun z S4 => b2 o' y z S4
    | false => .ok (.bl false) S3) hb A1 q1 fun w s2 y v2 M2 S2 H2 e2 A2 rp2 rv2 q2 => ?_
  rw [bind_assoc] at q2
  refine thn (ho pins s2 σ ρ M2 S2 H2 x y v v2 u w _ _ A2 (rp.ext e2) rp2 rv rv2 q2.bind) fun d s3 ⟨v3, H3, I3, r3, M3, S3, x3, e3, ok3, rp3, q3⟩ => ?_
  cases x3 with
  | bl k =>
    unfold Rep at rp3
    subst rp3
    cases (show d = Value.bool k from r3)
    refine wpAny_truthy_bool ?_
    have A3 : At p X pins σ s3 ρ M3 S3 H3 := ⟨I3, A2.env.ext e3, ok3⟩
    cases k with
    | false => exact ite_ff (A3.fin (v := .bl false) q3 (by unfold Rep; rfl) rfl)
    | true =>
      refine ite_tt (chain_last (one (k := fun _ z S4 => b2 o' y z S4) hc A3 q3 fun w4 s4 z v4 M4 S4 H4 e4 A4 rp4 rv4 q4 => ?_))
      exact ho' pins s4 σ ρ M4 S4 H4 y z v2 v4 w w4 Q _ A4 ((rp2.ext e3).ext e4) rp4 rv2 rv4 q4
  | _ => exact (show False from q3).elim
theorem s_chnT {op op' : CmpOp} {o o' : B2} (ho : OpB p X (compareOp op) o) (ho' : OpB p X (compareOp op') o') (ha : PE X a (tD p ra W)) (hb : PE X b (tD p rb W)) (hc : PE X c (tD p rc W)) (hm : behindInMarks op' c = false) :
    PT X (.Compare a [op, op'] [b, c] pos) (tDT p (chnR o o' ra rb rc) W) := by
  refine ptOf fun pins s σ H ρ M S Q A q => ?_
  unfold chnR at q
  simp only [bind_assoc] at q
  refine isTrue_chain (one (k := fun ρ x S1 => (rb ρ S1).bind fun y S2 => (b2 o x y S2).bind fun w S3 => (asB w S3).bind fun d S3 => (match d with
    | true => (rc ρ S3).bind fun z S4 => b2 o' y z S4
    | false => R.ok (PV.bl false) S3).bind asT) ha A q fun u s1 x v M1 S1 H1 e1 A1 rp rv q1 => test_link ?_) (by show lastMarks [op, op'] [b, c] = false; exact hm)
  refine one (k := fun ρ y S2 => (b2 o x y S2).bind fun w S3 => (asB w S3).bind fun d S3 => (match d with
    | true => (rc ρ S3).bind fun z S4 => b2 o' y z S4
    | false => R.ok (PV.bl false) S3).bind asT) hb A1 q1 fun w s2 y v2 M2 S2 H2 e2 A2 rp2 rv2 q2 => ?_
  refine thn (ho pins s2 σ ρ M2 S2 H2 x y v v2 u w _ _ A2 (rp.ext e2) rp2 rv rv2 q2.bind) fun d s3 ⟨v3, H3, I3, r3, M3, S3, x3, e3, ok3, rp3, q3⟩ => ?_
  cases x3 with
  | bl k =>
    unfold Rep at rp3
    subst rp3
    cases (show d = Value.bool k from r3)
    refine wpAny_truthy_bool ?_
    have A3 : At p X pins σ s3 ρ M3 S3 H3 := ⟨I3, A2.env.ext e3, ok3⟩
    cases k with
    | false => exact ite_ff ⟨H3, I3, q3.done ok3 rfl⟩
    | true =>
      have q3' : Post p repB ((rc ρ S3).bind fun z S4 => (b2 o' y z S4).bind asT) M3 H3 Q (wAt W σ) := by
        have := q3
        simp only [asB, bind_ok, bind_assoc] at this
        exact this
      refine ite_tt (test_last (one (k := fun _ z S4 => (b2 o' y z S4).bind asT) hc A3 q3' fun w4 s4 z v4 M4 S4 H4 e4 A4 rp4 rv4 q4 => ?_))
      refine thn (ho' pins s4 σ ρ M4 S4 H4 y z v2 v4 w w4 _ _ A4 ((rp2.ext e3).ext e4) rp4 rv2 rv4 q4.bind) fun d5 s5 ⟨v5, H5, I5, r5, M5, S5, x5, e5, ok5, rp5, q5⟩ => ?_
      cases x5 with
      | bl k5 =>
        unfold Rep at rp5
        subst rp5
        cases (show d5 = Value.bool k5 from r5)
        exact wpAny_truthy_bool ⟨H5, I5, q5.done ok5 rfl⟩
      | int k5 =>
        unfold Rep at rp5
        subst rp5
        obtain ⟨t5, rfl⟩ := (show ∃ t, d5 = Value.int k5 t from r5)
        exact PySem.P.truthy_int ⟨H5, I5, q5.done ok5 rfl⟩
      | _ => exact (show False from q5).elim
  | _ => exact (show False from q3).elim
theorem s_nil : PA X [] (tDA p (fun _ S => .ok [] S) W) :=
  paOf fun pos pins s σ H ρ M S Q A q => Calls.spliced_nil ⟨[], H, A.inv, .nil, q.done A.ok .nil⟩
theorem star_not {e : Expr} (h : notStar e = true) (es : List Expr) (env : PySem.Env) : starEach (e :: es) env = (false, eval e env) :: starEach es env := by
  cases e <;> first | rfl | exact absurd h (by simp [notStar])
def consR (r : Ev) (rs : Env → Store → R (List PV)) : Env → Store → R (List PV) := fun ρ S => (r ρ S).bind fun x S1 => (rs ρ S1).bind fun xs S2 => .ok (x :: xs) S2
theorem s_cons {es : List Expr} {rs : Env → Store → R (List PV)} (hs : notStar a = true) (ha : PE X a (tD p ra W)) (hr : PA X es (tDA p rs W)) : PA X (a :: es) (tDA p (consR ra rs) W) := by
  refine paOf fun pos pins s σ H ρ M S Q A q => ?_
  rw [star_not hs]
  show wpAny _ _ (spliced ((false, eval a X.env) :: backTo pos (starEach es X.env))) _ _ s
  refine Calls.spliced_cons (one (k := fun ρ x S1 => (rs ρ S1).bind fun xs S2 => .ok (x :: xs) S2) ha A q fun u s1 x v M1 S1 H1 e1 A1 rp rv q1 => ?_)
  refine oneA (k := fun ρ xs S2 => .ok (x :: xs) S2) hr A1 q1 fun us s2 xs vs M2 S2 H2 e2 A2 rp2 rv2 q2 => ?_
  exact ⟨v :: vs, H2, A2.inv, .cons rv rv2, q2.done A2.ok (.cons (rp.ext e2) rp2)⟩
theorem thousand {n : Nat} (h : n ≤ 1000) : n ≤ sizeLine := Nat.le_trans h (by decide)
theorem SL_eq : SL = sizeLine := by rw [sizeLine_eq]; rfl
def tupR (rs : Env → Store → R (List PV)) : Ev := fun ρ S => (rs ρ S).bind fun xs S1 => if xs.length ≤ 1000 then .ok (.tup xs) S1 else .bad
def lstR (rs : Env → Store → R (List PV)) : Ev := fun ρ S => (rs ρ S).bind fun xs S1 => if xs.length ≤ 1000 then .ok (.lst xs) S1 else .bad
/-- a new tuple in H, a new list -/
theorem new_tup {M : Ms} {S : Store} {H : Hp} {s : SOk p M S H} {q : Addr} {vs : List V} {xs : List PV} {its : List Value} (hn : H q = none) (r : RepL p.K M H xs vs) : Rep p.K M (upd H q (.frz (tupO its) (.tup vs))) (.tup xs) (.ref q) := by
  unfold Rep
  exact ⟨q, vs, rfl, ⟨⟨_, upd_same, rfl, rfl⟩, fun h => s.live h hn⟩, r.ext (Ext.alloc s hn)⟩
theorem new_lst {M : Ms} {S : Store} {H : Hp} {s : SOk p M S H} {q : Addr} {vs : List V} {xs : List PV} (hn : H q = none) (r : RepL p.K M H xs vs) : Rep p.K M (upd H q (.lst vs)) (.lst xs) (.ref q) := by
  unfold Rep
  exact ⟨q, vs, rfl, ⟨upd_same, fun h => s.live h hn⟩, r.ext (Ext.alloc s hn)⟩
theorem fin_new {M : Ms} {S : Store} {H : Hp} {Q : VK} {W' : XK} {x : PV} {q : Addr} {o : HO} (h : Post p (Rep p.K) (.ok x S) M H Q W') (s : SOk p M S H) (hn : H q = none) (r : Rep p.K M (upd H q o) x (.ref q)) : Q (.ref q) (upd H q o) :=
  h M _ _ (Ext.alloc s hn) (s.alloc hn) r
/-- a new tuple at the heap's end -/
theorem tnew {pins : List (Addr × Obj)} {σ : L2.St} {H : Hp} {s : Shared} {vs : List V} {its : List Value} {t' : Nat} (I : Inv X pins σ H s) (hv : Vals vs its) (hz : vs.length ≤ sizeLine) :
    Inv X pins σ (upd H s.heap.objs.size (.frz (tupO its) (.tup vs))) { s with heap := s.heap.push (tupO its), toks := t' } :=
  I.laid (fun b u e => Heap.get?_push_of_some _ e) (Nat.le_refl _) ⟨Heap.get?_push_size _ rfl, hz, its, hv, IsTup.new _ _⟩
theorem fin_tup {pins : List (Addr × Obj)} {σ : L2.St} {s : Shared} {ρ : Env} {M : Ms} {S : Store} {H : Hp} {Q : VK} {W' : XK} {xs : List PV} {vs : List V} {its : List Value} {t' : Nat} (A : At p X pins σ s ρ M S H) (h : Post p (Rep p.K) (.ok (.tup xs) S) M H Q W') (r : RepL p.K M H xs vs) (hv : Vals vs its) (hz : vs.length ≤ sizeLine) :
    EP X pins σ Q (.ref s.heap.objs.size) { s with heap := s.heap.push (tupO its), toks := t' } := by
  have hf : H s.heap.objs.size = none := A.inv.hok.fresh (Nat.le_refl _)
  exact ⟨.ref s.heap.objs.size, _, tnew A.inv hv hz, rfl, fin_new h A.ok hf (new_tup (s := A.ok) hf r)⟩
theorem s_tup {es : List Expr} {rs : Env → Store → R (List PV)} {x1} (hr : PA X es (tDA p rs W)) : PE X (.Tuple es x1 pos) (tD p (tupR rs) W) := by
  refine peOf fun pins s σ H ρ M S Q A q => ?_
  refine wpAny_Tuple_spliced (oneA (k := fun _ xs S1 => if xs.length ≤ 1000 then .ok (PV.tup xs) S1 else .bad) hr A q fun us s1 xs vs M1 S1 H1 e1 A1 rp rv q1 => ?_)
  have hl : xs.length ≤ 1000 := by
    by_cases z : xs.length ≤ 1000
    · exact z
    · rw [if_neg z] at q1; exact q1.elim
  rw [if_pos hl] at q1
  have z : vs.length ≤ sizeLine := by rw [← rp.length]; exact thousand hl
  exact ⟨by rw [← rv.length]; exact z, fin_tup (t' := s1.toks) A1 q1 rp rv z⟩
theorem s_lst {es : List Expr} {rs : Env → Store → R (List PV)} (hr : PA X es (tDA p rs W)) : PE X (.List es pos) (tD p (lstR rs) W) := by
  refine peOf fun pins s σ H ρ M S Q A q => ?_
  refine wpAny_List_spliced (oneA (k := fun _ xs S1 => if xs.length ≤ 1000 then .ok (PV.lst xs) S1 else .bad) hr A q fun us s1 xs vs M1 S1 H1 e1 A1 rp rv q1 => ?_)
  have hl : xs.length ≤ 1000 := by
    by_cases z : xs.length ≤ 1000
    · exact z
    · rw [if_neg z] at q1; exact q1.elim
  rw [if_pos hl] at q1
  have z : vs.length ≤ sizeLine := by rw [← rp.length]; exact thousand hl
  refine ⟨by rw [← rv.length]; exact z, ?_⟩
  have hf : H1 s1.heap.objs.size = none := A1.inv.hok.fresh (Nat.le_refl _)
  refine ⟨.ref s1.heap.objs.size, upd H1 s1.heap.objs.size (.lst vs), A1.inv.laid (t' := s1.toks) (fun b u e => Heap.get?_push_of_some _ e) (Nat.le_refl _) ?_, rfl, fin_new q1 A1.ok hf (new_lst (s := A1.ok) hf rp)⟩
  exact ⟨z, us, 0, rv, Heap.get?_push_size _ rfl⟩
/-- a new list that is changed later -/
def mutR (r : Ev) : Ev := fun ρ S => (r ρ S).bind fun v S1 => match v with
  | .lst xs => .ok (.ptr S1.length) (S1 ++ [.lst xs])
  | _ => .bad
theorem fin_cell {M : Ms} {S : Store} {H : Hp} {Q : VK} {W' : XK} {xs : List PV} {vs : List V} {q : Addr} (h : Post p (Rep p.K) (.ok (.ptr S.length) (S ++ [.lst xs])) M H Q W') (s : SOk p M S H) (hn : H q = none) (r : RepL p.K M H xs vs) : Q (.ref q) (upd H q (.lst vs)) :=
  h (M.add q) _ _ (Ext.cell s hn) (s.cell hn r) (by
    unfold Rep
    exact ⟨q, rfl, by show (M.l ++ [q])[S.length]? = some q; rw [← s.len]; simp⟩)
theorem s_mlst {es : List Expr} {rs : Env → Store → R (List PV)} (hr : PA X es (tDA p rs W)) : PE X (.List es pos) (tD p (mutR (lstR rs)) W) := by
  refine peOf fun pins s σ H ρ M S Q A q => ?_
  unfold mutR lstR at q
  rw [bind_assoc] at q
  refine wpAny_List_spliced (oneA (k := fun _ xs S1 => (if xs.length ≤ 1000 then R.ok (PV.lst xs) S1 else .bad).bind fun v S1 => match v with
    | .lst xs => .ok (PV.ptr S1.length) (S1 ++ [.lst xs])
    | _ => .bad) hr A q fun us s1 xs vs M1 S1 H1 e1 A1 rp rv q1 => ?_)
  have hl : xs.length ≤ 1000 := by
    by_cases z : xs.length ≤ 1000
    · exact z
    · rw [if_neg z] at q1; exact q1.elim
  rw [if_pos hl] at q1
  have z : vs.length ≤ sizeLine := by rw [← rp.length]; exact thousand hl
  refine ⟨by rw [← rv.length]; exact z, ?_⟩
  have hf : H1 s1.heap.objs.size = none := A1.inv.hok.fresh (Nat.le_refl _)
  refine ⟨.ref s1.heap.objs.size, upd H1 s1.heap.objs.size (.lst vs), A1.inv.laid (t' := s1.toks) (fun b u e => Heap.get?_push_of_some _ e) (Nat.le_refl _) ?_, rfl, fin_cell q1 A1.ok hf rp⟩
  exact ⟨z, us, 0, rv, Heap.get?_push_size _ rfl⟩
def SpD (p : Pm) (F : Orc) (g ar : Nat) : Sp := fun vs H Q E => vs.length = ar ∧ ∃ pvs M S, RepL p.K M H pvs vs ∧ SOk p M S H ∧ Post p (Rep p.K) (F g pvs S) M H Q E
def calR (F : Orc) (g : Nat) (rs : Env → Store → R (List PV)) : Ev := fun ρ S => (rs ρ S).bind fun xs S1 => F g xs S1
theorem s_cal {F : Orc} {g ar k : Nat} {f : Addr} {fd : FuncData} {ps : List Str} {x : Str} {q pos : Pos} {es : List Expr} {rs : Env → Store → R (List PV)} (hF : FnOk X.prog X.w X.K X.mg X.base (L2N.CX X.prog X.w) k f fd ps (SpD p F g ar)) (hr : Room k X.A) (hg : Gl X x) (hm : X.mg x = some (.ref f)) (hk : PySem.W.keepIn X.K (.ref f) = true) (hb : Binds X.K fd ps [])
    (tk : L2N.Takes X W) (ha : PA X (a :: es) (tDA p rs W)) (hs : notStar a = true) (hst : (backTo pos (starEach es X.env)).any (·.1) = false) (hl : ∀ xs S, xs.length ≠ ar → F g xs S = .bad) (hdb : (x == ("__debug__" : Str)) = false) :
    PE X (.Call (.Name x q) (a :: es) [] pos) (tD p (calR F g rs) W) := by
  refine ⟨fun pins s σ H Q I ⟨ρ, M, S, he, hsk, h⟩ => ?_⟩
  refine wpAny_Call_Name_kw (ld_glob I hg hm ?_ hdb)
  refine PySem.W.callWith_K (h₀ := X.base) I.ok.mod.kin hk (thn (ha.run pos pins s σ H _ I ⟨ρ, M, S, he, hsk, (show Post p (Rep p.K) ((rs ρ S).bind fun xs S1 => F g xs S1) M H Q (wAt W σ) from h).bind⟩) fun us s1 ⟨vs, H1, I1, r, M1, S1, xs, e1, ok1, rp, q1⟩ => ⟨I1.kIn, ?_⟩) (star_not hs _ _) hst
  have hlen : vs.length = ar := by
    rw [← rp.length]
    by_cases z : xs.length = ar
    · exact z
    · rw [hl xs S1 z] at q1; exact q1.elim
  exact run_fnS hF hr hb (L2N.passAt tk σ) I1 r ⟨hlen, xs, M1, S1, rp, ok1, q1⟩
theorem s_cal0 {F : Orc} {g k : Nat} {f : Addr} {fd : FuncData} {x : Str} {q pos : Pos} (hF : FnOk X.prog X.w X.K X.mg X.base (L2N.CX X.prog X.w) k f fd [] (SpD p F g 0)) (hr : Room k X.A) (hg : Gl X x) (hm : X.mg x = some (.ref f)) (hk : PySem.W.keepIn X.K (.ref f) = true) (hb : Binds X.K fd [] [])
    (tk : L2N.Takes X W) (hdb : (x == ("__debug__" : Str)) = false) :
    PE X (.Call (.Name x q) [] [] pos) (tD p (calR F g fun _ S => .ok [] S) W) := by
  refine ⟨fun pins s σ H Q I ⟨ρ, M, S, he, hsk, h⟩ => ?_⟩
  refine wpAny_Call_Name_kw (ld_glob I hg hm ?_ hdb)
  exact PySem.W.callWith_K0 I.kIn hk (run_fnS (us := []) hF hr hb (L2N.passAt tk σ) I .nil ⟨rfl, [], M, S, .nil, hsk, h⟩)
theorem any_star {es : List Expr} {env : PySem.Env} {pos : Pos} (h : es.all notStar = true) : (backTo pos (starEach es env)).any (·.1) = false := by
  induction es with
  | nil => rfl
  | cons e es ih =>
    rw [List.all_cons, Bool.and_eq_true] at h
    rw [star_not h.1]
    exact ih h.2
theorem s_idx (hp : plainIx b = true) (hop : ∀ (pins : List (Addr × Obj)) (s : Shared) (σ : L2.St) (ρ : Env) (M : Ms) (S : Store) (H : Hp) (x y : PV) (v v2 : V) (u w : Value) (Q : VK) (W' : XK), At p X pins σ s ρ M S H → Rep p.K M H x v → Rep p.K M H y v2 → RelV v u → RelV v2 w →
    Post p (Rep p.K) (b2 .idx x y S) M H Q W' → wpAny (model X.prog X.w) X.A (subscriptTail a b u w) (EP X pins σ Q) X.xe s) (ha : PE X a (tD p ra W)) (hb : PE X b (tD p rb W)) : PE X (.Subscript a b pos) (tD p (binR .idx ra rb) W) := by
  refine peOf fun pins s σ H ρ M S Q A q => ?_
  exact Subscript_ (two (k := fun _ x y S => b2 .idx x y S) ha hb A q fun u w s1 x y v v2 M1 S1 H1 e1 A1 r1 r2 rv rv2 q1 => hop pins s1 σ ρ M1 S1 H1 x y v v2 u w Q _ A1 r1 r2 rv rv2 q1)
end G
set_option maxHeartbeats 1000000
namespace G
open PySem PySem.Spec PyProof.Rows L2
variable {p : Pm} {X : Cx} {W : WX}
mutual
def toD : PV → PyData
  | .non => .none
  | .bl b => .bool b
  | .int i => .int i
  | .str s => .str (SS s)
  | .tup xs => .tuple (toDL xs)
  | .lst xs => .list (toDL xs)
  | .ptr _ => .none
  | .scr _ => .none
  | .exn _ => .none
def toDL : List PV → List PyData
  | [] => []
  | x :: xs => toD x :: toDL xs
end
theorem depL_cons {x : PV} {xs : List PV} {d : Nat} (h : depL (x :: xs) = some d) : ∃ a b, dep x = some a ∧ depL xs = some b ∧ d = max a b := by
  unfold depL at h
  split at h
  · rename_i a b e1 e2
    cases h
    exact ⟨a, b, e1, e2, rfl⟩
  · cases h
theorem dep_tup {xs : List PV} {d : Nat} (h : dep (.tup xs) = some d) : ∃ a, depL xs = some a ∧ d = a + 1 := by
  unfold dep at h
  cases e : depL xs with
  | none => rw [e] at h; cases h
  | some a => rw [e] at h; cases h; exact ⟨a, rfl, rfl⟩
theorem dep_lst {xs : List PV} {d : Nat} (h : dep (.lst xs) = some d) : ∃ a, depL xs = some a ∧ d = a + 1 := by
  unfold dep at h
  cases e : depL xs with
  | none => rw [e] at h; cases h
  | some a => rw [e] at h; cases h; exact ⟨a, rfl, rfl⟩
mutual
theorem depth_toD : ∀ (x : PV) (d : Nat), dep x = some d → (toD x).depth = d
  | .non, d, h => by cases h; rfl
  | .bl _, d, h => by cases h; rfl
  | .int _, d, h => by cases h; rfl
  | .str _, d, h => by cases h; rfl
  | .tup xs, d, h => by
    obtain ⟨a, e, rfl⟩ := dep_tup h
    show PyData.depthAll (toDL xs) + 1 = a + 1
    rw [depth_toDL xs a e]
  | .lst xs, d, h => by
    obtain ⟨a, e, rfl⟩ := dep_lst h
    show PyData.depthAll (toDL xs) + 1 = a + 1
    rw [depth_toDL xs a e]
  | .ptr _, d, h => by cases h
  | .scr _, d, h => by cases h
  | .exn _, d, h => by cases h
theorem depth_toDL : ∀ (xs : List PV) (d : Nat), depL xs = some d → PyData.depthAll (toDL xs) = d
  | [], d, h => by cases h; rfl
  | x :: xs, d, h => by
    obtain ⟨a, b, e1, e2, rfl⟩ := depL_cons h
    show max (toD x).depth (PyData.depthAll (toDL xs)) = max a b
    rw [depth_toD x a e1, depth_toDL xs b e2]
end
variable {K : PySem.W.Frag} {M : Ms} {H : Hp} {S : Store}
mutual
theorem rep_dp : ∀ (x : PV) (d : Nat) (v : V), dep x = some d → Rep K M H x v → Dp K H v (toD x)
  | .non, _, v, _, r => by unfold Rep at r; subst r; exact .non
  | .bl b, _, v, _, r => by unfold Rep at r; subst r; exact .bl b
  | .int i, _, v, _, r => by unfold Rep at r; subst r; exact .int i
  | .str s, _, v, _, r => by unfold Rep at r; obtain ⟨rfl, _⟩ := r; exact .str _
  | .tup xs, d, v, h, r => by
    obtain ⟨a, e, rfl⟩ := dep_tup h
    unfold Rep at r
    obtain ⟨q, vs, rfl, h1, h2⟩ := r
    exact .tup h1.sq (rep_dpL xs a vs e h2)
  | .lst xs, d, v, h, r => by
    obtain ⟨a, e, rfl⟩ := dep_lst h
    unfold Rep at r
    obtain ⟨q, vs, rfl, h1, h2⟩ := r
    exact .lst h1.sq (rep_dpL xs a vs e h2)
  | .ptr _, d, v, h, r => by cases h
  | .scr _, d, v, h, r => by cases h
  | .exn _, d, v, h, r => by cases h
theorem rep_dpL : ∀ (xs : List PV) (d : Nat) (vs : List V), depL xs = some d → RepL K M H xs vs → DpAll K H vs (toDL xs)
  | [], _, vs, _, r => by rw [r.nil_inv]; exact .nil
  | x :: xs, d, vs, h, r => by
    obtain ⟨a, b, e1, e2, rfl⟩ := depL_cons h
    obtain ⟨w, ws, rfl, r1, r2⟩ := r.cons_inv
    exact .cons (rep_dp x a w e1 r1) (rep_dpL xs b ws e2 r2)
end
theorem okS_str {s : List Nat} (h : okS s = true) : PyData.strOk (SS s) = true := by
  unfold okS at h
  rw [Bool.and_eq_true] at h
  have h1 := List.all_eq_true.mp h.1
  show (SS s).cps.all (· < 0x110000) = true
  rw [Array.all_eq_true']
  intro c hc
  have := h1 c (by simpa using hc)
  simpa using this
mutual
theorem rep_lay : ∀ (x : PV) (v : V), Rep K M H x v → (toD x).canLay0 = true
  | .non, v, r => rfl
  | .bl b, v, r => rfl
  | .int i, v, r => rfl
  | .str s, v, r => by unfold Rep at r; exact okS_str r.2
  | .tup xs, v, r => by
    unfold Rep at r
    obtain ⟨q, vs, rfl, h1, h2⟩ := r
    exact rep_layL xs vs h2
  | .lst xs, v, r => by
    unfold Rep at r
    obtain ⟨q, vs, rfl, h1, h2⟩ := r
    exact rep_layL xs vs h2
  | .ptr _, v, r => rfl
  | .scr _, v, r => rfl
  | .exn _, v, r => rfl
theorem rep_layL : ∀ (xs : List PV) (vs : List V), RepL K M H xs vs → PyData.canLayAll0 (toDL xs) = true
  | [], vs, r => rfl
  | x :: xs, vs, r => by
    obtain ⟨w, ws, rfl, r1, r2⟩ := r.cons_inv
    show ((toD x).canLay0 && PyData.canLayAll0 (toDL xs)) = true
    rw [rep_lay x w r1, rep_layL xs ws r2]
    rfl
end
theorem SS_inj {a b : List Nat} : (SS a == SS b) = (a == b) := by
  rw [Bool.eq_iff_iff, beq_iff_eq, beq_iff_eq]
  constructor
  · intro h
    have : a.toArray = b.toArray := congrArg Str.cps h
    simpa using congrArg Array.toList this
  · rintro rfl; rfl
mutual
theorem eqv_toD : ∀ (x y : PV) (i j : Nat), dep x = some i → dep y = some j → PyData.eqv (toD x) (toD y) = pveq x y
  | .tup xs, y, i, j, h1, h2 => by
    obtain ⟨a, e1, rfl⟩ := dep_tup h1
    cases y with
    | tup ys =>
      obtain ⟨b, e2, rfl⟩ := dep_tup h2
      show PyData.eqvAll (toDL xs) (toDL ys) = pveqL xs ys
      exact eqv_toDL xs ys a b e1 e2
    | ptr _ => cases h2
    | scr _ => cases h2
    | exn _ => cases h2
    | _ => rfl
  | .lst xs, y, i, j, h1, h2 => by
    obtain ⟨a, e1, rfl⟩ := dep_lst h1
    cases y with
    | lst ys =>
      obtain ⟨b, e2, rfl⟩ := dep_lst h2
      show PyData.eqvAll (toDL xs) (toDL ys) = pveqL xs ys
      exact eqv_toDL xs ys a b e1 e2
    | ptr _ => cases h2
    | scr _ => cases h2
    | exn _ => cases h2
    | _ => rfl
  | .non, y, i, j, h1, h2 => by
    cases y with
    | ptr _ => cases h2
    | scr _ => cases h2
    | exn _ => cases h2
    | _ => rfl
  | .bl a, y, i, j, h1, h2 => by
    cases y with
    | ptr _ => cases h2
    | scr _ => cases h2
    | exn _ => cases h2
    | _ => rfl
  | .int a, y, i, j, h1, h2 => by
    cases y with
    | ptr _ => cases h2
    | scr _ => cases h2
    | exn _ => cases h2
    | _ => rfl
  | .str a, y, i, j, h1, h2 => by
    cases y with
    | str b =>
      show (SS a == SS b) = (a == b)
      exact SS_inj
    | ptr _ => cases h2
    | scr _ => cases h2
    | exn _ => cases h2
    | _ => rfl
  | .ptr _, y, i, j, h1, h2 => by cases h1
  | .scr _, y, i, j, h1, h2 => by cases h1
  | .exn _, y, i, j, h1, h2 => by cases h1
theorem eqv_toDL : ∀ (xs ys : List PV) (i j : Nat), depL xs = some i → depL ys = some j → PyData.eqvAll (toDL xs) (toDL ys) = pveqL xs ys
  | [], [], _, _, _, _ => rfl
  | [], _ :: _, _, _, _, _ => rfl
  | _ :: _, [], _, _, _, _ => rfl
  | x :: xs, y :: ys, i, j, h1, h2 => by
    obtain ⟨a, b, e1, e2, rfl⟩ := depL_cons h1
    obtain ⟨c, d, e3, e4, rfl⟩ := depL_cons h2
    show (PyData.eqv (toD x) (toD y) && PyData.eqvAll (toDL xs) (toDL ys)) = (pveq x y && pveqL xs ys)
    rw [eqv_toD x y a c e1 e3, eqv_toDL xs ys b d e2 e4]
end
theorem eqOk_some {x y : PV} (h : eqOk x y = true) : ∃ i j, dep x = some i ∧ dep y = some j ∧ min i j ≤ 40 := by
  unfold eqOk at h
  split at h
  · rename_i i j e1 e2
    exact ⟨i, j, e1, e2, of_decide_eq_true h⟩
  · cases h
/-- a mutable list, read as it stands, is a tracked list -/
theorem rep_res {v : V} {x : PV} (s : SOk p M S H) (r : Rep p.K M H x v) : (∃ n xs q vs, x = .ptr n ∧ res S x = .lst xs ∧ v = .ref q ∧ H q = some (.lst vs) ∧ RepL p.K M H xs vs) ∨ (res S x = x ∧ ∀ n, x = .ptr n → ∃ kvs, S[n]? = some (.dis kvs)) := by
  cases x with
  | ptr n =>
    unfold Rep at r
    obtain ⟨a, rfl, hm⟩ := r
    have hl : n < S.length := by rw [← s.len]; exact (List.getElem?_eq_some_iff.mp hm).1
    cases e : S[n]? with
    | none => rw [List.getElem?_eq_none_iff] at e; omega
    | some o =>
      cases o with
      | lst xs =>
        obtain ⟨vs, h1, h2⟩ := s.at_ hm e
        exact .inl ⟨n, xs, a, vs, rfl, by show (match S[n]? with | some (MO.lst xs) => PV.lst xs | _ => .ptr n) = _; rw [e], rfl, h1, h2⟩
      | dis kvs => exact .inr ⟨by show (match S[n]? with | some (MO.lst xs) => PV.lst xs | _ => .ptr n) = _; rw [e], fun n' z => by cases z; exact ⟨kvs, e⟩⟩
  | _ => exact .inr ⟨rfl, fun n z => by cases z⟩
/-- what == needs of it -/
theorem res_dp {v : V} {x : PV} {d : Nat} (s : SOk p M S H) (r : Rep p.K M H x v) (h : dep (res S x) = some d) : Dp p.K H v (toD (res S x)) ∧ (toD (res S x)).canLay0 = true := by
  rcases rep_res s r with ⟨n, xs, q, vs, rfl, e, rfl, hq, rl⟩ | ⟨e, _⟩
  · rw [e] at h ⊢
    obtain ⟨a, ea, rfl⟩ := dep_lst h
    exact ⟨.lst (.of hq) (rep_dpL xs a vs ea rl), rep_layL xs vs rl⟩
  · rw [e] at h ⊢
    exact ⟨rep_dp x d v h r, rep_lay x v r⟩
theorem room_eq {i j : Nat} {A : Around} {n : Nat} (hr : Room n A) (h : min i j ≤ 40) : A.units + min i j < cLine := by have := hr.units; omega
variable {n : Nat}
theorem fin0 {pins : List (Addr × Obj)} {σ : L2.St} {s : Shared} {ρ : Env} {x : PV} {v : V} {Q : VK} {W' : XK} (A : At p X pins σ s ρ M S H) (h : Post p (Rep p.K) (rok x S) M H Q W') (r : Rep p.K M H x v) : Q v H := h.done A.ok r
theorem rep_bl {b : Bool} : Rep K M H (.bl b) (.bl b) := by unfold Rep; rfl
theorem rep_int {i : Int} : Rep K M H (.int i) (.int i) := by unfold Rep; rfl
theorem ob_eq (hK : X.K = p.K) (hr : Room n X.A) : OpB p X (compareOp .Eq) .eq := by
  intro pins s σ ρ M S H x y v v2 u w Q W' A r1 r2 rv rv2 q
  unfold b2 at q
  simp only at q
  by_cases hc : eqOk (res S x) (res S y) = true
  · rw [if_pos hc] at q
    obtain ⟨i, j, e1, e2, hm⟩ := eqOk_some hc
    obtain ⟨d1, l1⟩ := res_dp A.ok r1 e1
    obtain ⟨d2, l2⟩ := res_dp A.ok r2 e2
    rw [← hK] at d1 d2
    obtain ⟨as, ra⟩ := Dp.reads A.inv _ v u d1 rv
    obtain ⟨bs, rb⟩ := Dp.reads A.inv _ v2 w d2 rv2
    refine SeqAt.compareEq_reads ra rb l1 l2 (by rw [depth_toD _ i e1, depth_toD _ j e2]; exact room_eq hr hm) ?_
    rw [eqv_toD _ _ i j e1 e2]
    exact ⟨.bl _, H, A.inv, rfl, fin0 A q rep_bl⟩
  · rw [if_neg hc] at q; exact q.elim
theorem ob_ne (hK : X.K = p.K) (hr : Room n X.A) : OpB p X (compareOp .NotEq) .ne := by
  intro pins s σ ρ M S H x y v v2 u w Q W' A r1 r2 rv rv2 q
  unfold b2 at q
  simp only at q
  by_cases hc : eqOk (res S x) (res S y) = true
  · rw [if_pos hc] at q
    obtain ⟨i, j, e1, e2, hm⟩ := eqOk_some hc
    obtain ⟨d1, l1⟩ := res_dp A.ok r1 e1
    obtain ⟨d2, l2⟩ := res_dp A.ok r2 e2
    rw [← hK] at d1 d2
    obtain ⟨as, ra⟩ := Dp.reads A.inv _ v u d1 rv
    obtain ⟨bs, rb⟩ := Dp.reads A.inv _ v2 w d2 rv2
    refine SeqAt.compareNe_reads ra rb l1 l2 (by rw [depth_toD _ i e1, depth_toD _ j e2]; exact room_eq hr hm) ?_
    rw [eqv_toD _ _ i j e1 e2]
    exact ⟨.bl _, H, A.inv, rfl, fin0 A q rep_bl⟩
  · rw [if_neg hc] at q; exact q.elim
theorem okS_app {a b : List Nat} (ha : okS a = true) (hb : okS b = true) (h : a.length + b.length ≤ SL) : okS (a ++ b) = true := by
  unfold okS at ha hb ⊢
  rw [Bool.and_eq_true] at ha hb ⊢
  rw [List.all_append, ha.1, hb.1]
  exact ⟨rfl, decide_eq_true (by rw [List.length_append]; exact h)⟩
theorem SS_app {a b : List Nat} : SS a ++ SS b = SS (a ++ b) := by
  show (⟨a.toArray ++ b.toArray⟩ : Str) = ⟨(a ++ b).toArray⟩
  rw [List.append_toArray]
theorem SS_len {a : List Nat} : (SS a).length = a.length := by show a.toArray.size = _; simp
theorem ob_int2 {f : Value → Value → Sem Value} {o : B2} {C : Int → Int → Prop} {g : Int → Int → V} {gp : Int → Int → PV} (hr : ∀ i j, Rep p.K M H (gp i j) (g i j)) (ho : OpR X f (rI C g)) {pins : List (Addr × Obj)} {s : Shared} {σ : L2.St} {ρ : Env} {i j : Int} {u w : Value} {v v2 : V} {Q : VK} {W' : XK}
    (A : At p X pins σ s ρ M S H) (r1 : Rep p.K M H (.int i) v) (r2 : Rep p.K M H (.int j) v2) (rv : RelV v u) (rv2 : RelV v2 w) (hC : C i j) (q : Post p (Rep p.K) (rok (gp i j) S) M H Q W') : wpAny (model X.prog X.w) X.A (f u w) (EP X pins σ Q) X.xe s := by
  unfold Rep at r1 r2
  subst r1 r2
  exact ho pins s σ H _ _ u w Q A.inv rv rv2 ⟨i, j, rfl, rfl, hC, fin0 A q (hr i j)⟩
theorem rI0_rI {g : Int → Int → V} {f : Value → Value → Sem Value} (h : OpR X f (rI0 g)) : OpR X f (rI (fun _ _ => True) g) := by
  intro pins s σ H x y v u Q I rx ry ⟨i, j, e1, e2, _, q⟩
  exact h pins s σ H x y v u Q I rx ry ⟨i, j, e1, e2, q⟩
theorem ob_bi {f : Value → Value → Sem Value} {b : Bool} {j k : Int} (ho : ∀ {t : Tok} {s : Shared} {Q : Value → Shared → Prop}, Q (.int k s.toks) { s with toks := s.toks + 1 } → wpAny (model X.prog X.w) X.A (f (.bool b) (.int j t)) Q X.xe s)
    {pins : List (Addr × Obj)} {s : Shared} {σ : L2.St} {ρ : Env} {u w : Value} {v v2 : V} {Q : VK} {W' : XK} {S : Store} (A : At p X pins σ s ρ M S H) (r1 : Rep p.K M H (.bl b) v) (r2 : Rep p.K M H (.int j) v2) (rv : RelV v u) (rv2 : RelV v2 w) (q : Post p (Rep p.K) (rok (.int k) S) M H Q W') : wpAny (model X.prog X.w) X.A (f u w) (EP X pins σ Q) X.xe s := by
  unfold Rep at r1 r2
  subst r1 r2
  cases (show u = Value.bool b from rv)
  obtain ⟨t, rfl⟩ := (show ∃ t, w = Value.int j t from rv2)
  exact ho ⟨.int k, H, A.inv.tok _, ⟨_, rfl⟩, q.done A.ok rep_int⟩
theorem ob_sub : OpB p X (binaryOp .Sub) .sub := by
  intro pins s σ ρ M S H x y v v2 u w Q W' A r1 r2 rv rv2 q
  cases x <;> cases y <;> first
    | exact (show False from q).elim
    | exact ob_int2 (o := .sub) (fun _ _ => rep_int) (rI0_rI op_sub) A r1 r2 rv rv2 True.intro q
    | exact ob_bi (fun h => PySem.IntBool.sub_bool_int h) A r1 r2 rv rv2 q
theorem repL_len {α : Type} (k : Nat) (xs : List α) : (repL k xs).length = k * xs.length := by
  unfold repL
  induction k with
  | zero => simp
  | succ k ih => rw [List.replicate_succ, List.flatten_cons, List.length_append, ih, Nat.succ_mul, Nat.add_comm]
theorem RepL.rep {xs : List PV} {vs : List V} (h : RepL K M H xs vs) : ∀ k : Nat, RepL K M H (repL k xs) (repL k vs)
  | 0 => RepL.nil
  | k + 1 => by
    unfold repL
    rw [List.replicate_succ, List.flatten_cons, List.replicate_succ, List.flatten_cons]
    exact h.append (RepL.rep h k)
theorem foldl_arr : ∀ (k : Nat) (xs : List Nat) (a : List Nat), (List.replicate k xs.toArray).foldl (· ++ ·) a.toArray = (a ++ repL k xs).toArray
  | 0, xs, a => by unfold repL; simp
  | k + 1, xs, a => by
    rw [List.replicate_succ, List.foldl_cons, List.append_toArray, foldl_arr k xs (a ++ xs)]
    unfold repL
    rw [List.replicate_succ, List.flatten_cons, List.append_assoc]
theorem ok_repL {a : List Nat} {k : Int} (o : okS a = true) (h2 : k ≤ 1000) (h3 : a.length ≤ 1000) : okS (repL k.toNat a) = true := by
  unfold okS at o ⊢
  rw [Bool.and_eq_true] at o ⊢
  refine ⟨List.all_eq_true.mpr fun c hc => List.all_eq_true.mp o.1 c ?_, decide_eq_true ?_⟩
  · unfold repL at hc
    obtain ⟨l, hl, hc⟩ := List.mem_flatten.mp hc
    rw [List.eq_of_mem_replicate hl] at hc
    exact hc
  · rw [repL_len]
    have := Nat.mul_le_mul (show k.toNat ≤ 1000 by omega) h3
    omega
theorem mul_s {pins : List (Addr × Obj)} {s : Shared} {σ : L2.St} {ρ : Env} {a : List Nat} {k : Int} {u w : Value} {Q : VK} {W' : XK} (A : At p X pins σ s ρ M S H) (o : okS a = true) (rv : RelV (.str (SS a)) u) (rv2 : RelV (.int k) w)
    (hh : a ≠ [] ∧ 2 ≤ k ∧ k ≤ 1000 ∧ a.length ≤ 1000) (q : Post p (Rep p.K) (rok (.str (repL k.toNat a)) S) M H Q W') : wpAny (model X.prog X.w) X.A (binaryOp .Mult u w) (EP X pins σ Q) X.xe s := by
  obtain ⟨h0, h1, h2, h3⟩ := hh
  obtain ⟨t, rfl⟩ := rv
  obtain ⟨t2, rfl⟩ := rv2
  have hl : (SS a).length = a.length := SS_len
  have hm : (k.toNat * a.length) ≤ 1000 * 1000 := Nat.mul_le_mul (show k.toNat ≤ 1000 by omega) h3
  have o2 := ok_repL o h2 h3
  have hlen : a.length ≠ 0 := fun z => h0 (List.eq_nil_of_length_eq_zero z)
  have hif : (k == 1 || (SS a).length == 0) = false := by
    rw [hl, beq_eq_false_iff_ne.mpr (by omega : k ≠ 1), beq_eq_false_iff_ne.mpr hlen]; rfl
  refine PySem.P.mul_str ?_ ?_ ?_ ?_
  · rw [decide_eq_false (by omega), decide_eq_false (by omega)] <;> rfl
  · intro _ _
    have h4 : (1000 : Int) ≤ (2 ^ 63 - 1) / k := by
      rw [Int.le_ediv_iff_mul_le (by omega)]
      omega
    omega
  · intro _ _
    rw [hl]
    unfold Builtin.Str.tooLong
    rw [sizeLine_eq]
    have : a.length * k.toNat = k.toNat * a.length := Nat.mul_comm _ _
    exact decide_eq_false (by omega)
  · rw [if_neg (by omega), if_neg (by rw [hif]; exact Bool.false_ne_true)]
    have e : (⟨(List.replicate k.toNat (SS a).cps).foldl (· ++ ·) #[]⟩ : Str) = SS (repL k.toNat a) := by
      have := foldl_arr k.toNat a []
      rw [List.nil_append] at this
      exact congrArg Str.mk this
    rw [e]
    exact ⟨by rw [SS_len, repL_len, sizeLine_eq]; omega, .str (SS (repL k.toNat a)), H, A.inv.tok _, ⟨_, rfl⟩, fin0 A q (by unfold Rep; exact ⟨rfl, o2⟩)⟩
theorem tuple_mul1 (l : Addr) (items : Array Value) (n : Nat) (dd : Option Addr) (sl : Array (Option Value)) (u : Tok) :
    Meets (Builtin.«tuple.__mul__» ⟨[.ref l, .int 1 u], []⟩) (fun _ R s => s.heap.get? l = some { cls := .type "tuple", dict := dd, data := .seq items n, slots := sl } ∧ R (.ok (.ret (Value.ref l))) s) :=
  .of_wp fun prog w A R s h => by
    obtain ⟨hp, g, d, tk, os⟩ := s
    obtain ⟨hl, h⟩ := h
    have f1 := AutoSeq1.idx_int
    wp_walk using wpAny_loadPart' hl
    repeat (first
      | (refine wpAny_ite_false (decide_eq_false (by decide)) ?_; wp_walk using wpAny_loadPart' hl)
      | (refine wpAny_ite_true (decide_eq_true (by simp)) ?_; wp_walk using wpAny_loadPart' hl))
    exact ⟨_, rfl, h⟩
theorem tuple_mul0 (l : Addr) (items : Array Value) (n : Nat) (dd : Option Addr) (sl : Array (Option Value)) (u : Tok) (hi : items.isEmpty = false) :
    Meets (Builtin.«tuple.__mul__» ⟨[.ref l, .int 0 u], []⟩) (fun _ R s => s.heap.get? l = some { cls := .type "tuple", dict := dd, data := .seq items n, slots := sl } ∧
      R (.ok (.ret (Value.ref s.heap.objs.size))) { s with heap := s.heap.push { cls := Value.type "tuple", data := Data.seq #[] }, toks := s.toks }) :=
  .of_wp fun prog w A R s h => by
    obtain ⟨hp, g, d, tk, os⟩ := s
    obtain ⟨hl, h⟩ := h
    have f1 := AutoSeq1.idx_int
    wp_walk using wpAny_loadPart' hl
    repeat (first
      | (refine wpAny_ite_false (decide_eq_false (by decide)) ?_; wp_walk using wpAny_loadPart' hl)
      | (refine wpAny_ite_false (decide_eq_false (by rw [hi]; decide)) ?_; wp_walk using wpAny_loadPart' hl)
      | (refine wpAny_ite_true (decide_eq_true (by simp)) ?_; wp_walk using wpAny_loadPart' hl))
    exact ⟨_, rfl, h⟩
theorem mul_t (hK : X.K = p.K) {pins : List (Addr × Obj)} {s : Shared} {σ : L2.St} {ρ : Env} {xs : List PV} {k : Int} {v : V} {u w : Value} {Q : VK} {W' : XK} (A : At p X pins σ s ρ M S H) (r1 : Rep p.K M H (.tup xs) v) (rv : RelV v u) (rv2 : RelV (.int k) w)
    (hh : xs.length ≠ 0 ∧ 0 ≤ k ∧ k ≤ 1000 ∧ xs.length ≤ 1000) (q : Post p (Rep p.K) (rok (.tup (repL k.toNat xs)) S) M H Q W') : wpAny (model X.prog X.w) X.A (binaryOp .Mult u w) (EP X pins σ Q) X.xe s := by
  obtain ⟨h0, h1', h2, h3⟩ := hh
  have r1' := r1
  unfold Rep at r1
  obtain ⟨l, vs, rfl, ht, rl⟩ := r1
  cases rv
  obtain ⟨t, rfl⟩ := rv2
  have rl' := rl.rep k.toNat
  obtain ⟨its, r, ⟨⟨cls, dd, data, sl⟩, ho, hc, n, hd⟩, hs⟩ := A.inv.tuple (ht.sq (K := X.K))
  simp only at hc hd
  subst hc hd
  have hle : its.length = xs.length := by rw [← r.length, ← rl.length]
  have hi : its.toArray.isEmpty = false := by
    cases its with
    | nil => exact absurd hle.symm h0
    | cons a b => rfl
  by_cases k1 : k = 1
  · subst k1
    have e1 : repL (Int.toNat 1) xs = xs := by show (List.replicate 1 xs).flatten = xs; simp
    rw [e1] at q
    refine wpAny_binaryOp_repeat_ref (T := "tuple") (U := "int") (by decide) ⟨_, ho, rfl⟩ (fun s' => typeIs_int s' 1 t) noFill_tuple_mul F.fills_int_mul F.slot_int_rmul repeat_tuple F.slot_int_index.lookup
      (call_meets F.slot_int_rmul (typeIs_int s 1 t) F.entry_int_rmul (F.args_int_rmul_2 _ _) (int_rmul_tuple 1 t l its.toArray n dd sl)
        ⟨ho, rfl, ⟨_, ho, rfl⟩, call_meets F.slot_tuple_mul ⟨_, ho, rfl⟩ F.entry_tuple_mul (F.args_tuple_mul_2 _ _) (tuple_mul1 l its.toArray n dd sl t) ⟨ho, A.fin q r1' rfl⟩⟩)
  by_cases k0 : k = 0
  · subst k0
    have e1 : repL (Int.toNat 0) xs = [] := rfl
    rw [e1] at q
    refine wpAny_binaryOp_repeat_ref (T := "tuple") (U := "int") (by decide) ⟨_, ho, rfl⟩ (fun s' => typeIs_int s' 0 t) noFill_tuple_mul F.fills_int_mul F.slot_int_rmul repeat_tuple F.slot_int_index.lookup
      (call_meets F.slot_int_rmul (typeIs_int s 0 t) F.entry_int_rmul (F.args_int_rmul_2 _ _) (int_rmul_tuple 0 t l its.toArray n dd sl)
        ⟨ho, rfl, ⟨_, ho, rfl⟩, call_meets F.slot_tuple_mul ⟨_, ho, rfl⟩ F.entry_tuple_mul (F.args_tuple_mul_2 _ _) (tuple_mul0 l its.toArray n dd sl t hi) ⟨ho, ?_⟩⟩)
    exact fin_tup (its := []) (vs := []) (t' := s.toks) A q .nil .nil (Nat.zero_le _)
  have h1 : 2 ≤ k := by omega
  have hsz0 : its.toArray.size = xs.length := by rw [List.size_toArray, hle]
  have hm : ((its.toArray.size : Nat) : Int) * k ≤ 1000000 := by
    rw [hsz0]
    have a1 : ((xs.length : Nat) : Int) * k ≤ 1000 * k := Int.mul_le_mul_of_nonneg_right (by omega) (by omega)
    omega
  have hmn : k.toNat * xs.length ≤ 1000 * 1000 := Nat.mul_le_mul (by omega) h3
  have flen : (List.replicate k.toNat its).flatten.length ≤ sizeLine := by
    rw [PyProof.Rows.lm_len_rep_flat, hle, sizeLine_eq]
    omega
  have c0 : (decide (k < -(2 ^ 63)) || decide (k ≥ 2 ^ 63)) = false := by
    rw [decide_eq_false (by omega), decide_eq_false (by omega)] <;> rfl
  have c1 : (its.toArray.isEmpty || k == 1) = false := by
    rw [hi, Bool.false_or]
    exact beq_eq_false_iff_ne.mpr (by omega)
  have c2 : (decide (k ≤ 0) || its.toArray.isEmpty) = false := by
    rw [hi, Bool.or_false]
    exact decide_eq_false (by omega)
  have c4 : Builtin.Tuple.tupleTooMany (((its.toArray.size : Nat) : Int) * k) = false := by
    unfold Builtin.Tuple.tupleTooMany
    rw [sizeLine_eq]
    exact decide_eq_false (by omega)
  refine wpAny_binaryOp_repeat_ref (T := "tuple") (U := "int") (by decide) ⟨_, ho, rfl⟩ (fun s' => typeIs_int s' k t) noFill_tuple_mul F.fills_int_mul F.slot_int_rmul repeat_tuple F.slot_int_index.lookup
    (call_meets F.slot_int_rmul (typeIs_int s k t) F.entry_int_rmul (F.args_int_rmul_2 _ _) (int_rmul_tuple k t l its.toArray n dd sl)
      ⟨ho, rfl, ⟨_, ho, rfl⟩, call_meets F.slot_tuple_mul ⟨_, ho, rfl⟩ F.entry_tuple_mul (F.args_tuple_mul_2 _ _) (tuple_mulW l its.toArray n dd sl k t c0 c1 c2 (by omega) c4 (by rw [size_rep, List.size_toArray]; exact flen)) ⟨ho, ?_⟩⟩)
  rw [size_rep]
  exact fin_tup (t' := s.toks) A q rl' (r.rep k.toNat) (by rw [← rl'.length, repL_len, sizeLine_eq]; omega)
theorem mul_l {pins : List (Addr × Obj)} {s : Shared} {σ : L2.St} {ρ : Env} {xs : List PV} {k : Int} {v : V} {u w : Value} {Q : VK} {W' : XK} (A : At p X pins σ s ρ M S H) (r1 : Rep p.K M H (.lst xs) v) (rv : RelV v u) (rv2 : RelV (.int k) w)
    (hh : 0 ≤ k ∧ k ≤ 1000 ∧ xs.length ≤ 1000) (q : Post p (Rep p.K) (rok (.lst (repL k.toNat xs)) S) M H Q W') : wpAny (model X.prog X.w) X.A (binaryOp .Mult u w) (EP X pins σ Q) X.xe s := by
  obtain ⟨h0, h1, h2⟩ := hh
  unfold Rep at r1
  obtain ⟨l, vs, rfl, hl, rl⟩ := r1
  refine op_rep pins s σ H (.ref l) (.int k) u w Q A.inv rv rv2 ⟨l, k, vs, rfl, rfl, hl.1, by omega, by omega, ?_, fun c hc => ?_⟩
  · have e := Nat.mul_le_mul h2 (show k.toNat ≤ 1000 by omega)
    rw [← rl.length, sizeLine_eq]
    omega
  · exact fin_new q A.ok hc (new_lst (s := A.ok) hc (rl.rep k.toNat))
theorem ob_mul (hK : X.K = p.K) : OpB p X (binaryOp .Mult) .mul := by
  intro pins s σ ρ M S H x y v v2 u w Q W' A r1 r2 rv rv2 q
  cases x <;> cases y <;> first
    | exact (show False from q).elim
    | (rename_i a k
       unfold b2 at q
       simp only at q
       unfold Rep at r1 r2
       obtain ⟨rfl, o⟩ := r1
       subst r2
       split at q
       · rename_i hh
         exact mul_s A o rv rv2 hh q
       · exact (show False from q).elim
       done)
    | (rename_i a k
       have r2' : v2 = .int k := by unfold Rep at r2; exact r2
       subst r2'
       unfold b2 at q
       simp only at q
       split at q
       · rename_i hh
         exact mul_t hK A r1 rv rv2 hh q
       · exact (show False from q).elim
       done)
    | (rename_i a k
       have r2' : v2 = .int k := by unfold Rep at r2; exact r2
       subst r2'
       unfold b2 at q
       simp only at q
       split at q
       · rename_i hh
         exact mul_l A r1 rv rv2 hh q
       · exact (show False from q).elim
       done)
    | (rename_i i j
       unfold b2 at q
       simp only at q
       split at q
       · rename_i hc
         exact ob_int2 (o := .mul) (gp := fun i j => .int (i * j)) (fun _ _ => rep_int) op_mul A r1 r2 rv rv2 hc q
       · exact (show False from q).elim)
theorem ob_fdiv : OpB p X (binaryOp .FloorDiv) .fdiv := by
  intro pins s σ ρ M S H x y v v2 u w Q W' A r1 r2 rv rv2 q
  cases x <;> cases y <;> first
    | exact (show False from q).elim
    | (rename_i i j
       unfold b2 at q
       simp only at q
       split at q
       · rename_i hc
         exact ob_int2 (o := .fdiv) (gp := fun i j => .int (i / j)) (fun _ _ => rep_int) op_fdiv A r1 r2 rv rv2 hc q
       · exact (show False from q).elim)
theorem ob_mod : OpB p X (binaryOp .Mod) .mod := by
  intro pins s σ ρ M S H x y v v2 u w Q W' A r1 r2 rv rv2 q
  cases x <;> cases y <;> first
    | exact (show False from q).elim
    | (rename_i i j
       unfold b2 at q
       simp only at q
       split at q
       · rename_i hc
         exact ob_int2 (o := .mod) (gp := fun i j => .int (i % j)) (fun _ _ => rep_int) op_mod A r1 r2 rv rv2 hc q
       · exact (show False from q).elim)
theorem ob_pow : OpB p X (binaryOp .Pow) .pow := by
  intro pins s σ ρ M S H x y v v2 u w Q W' A r1 r2 rv rv2 q
  cases x <;> cases y <;> first
    | exact (show False from q).elim
    | (rename_i i j
       unfold b2 at q
       simp only at q
       split at q
       · rename_i hc
         exact ob_int2 (o := .pow) (gp := fun i j => .int (i ^ j.toNat)) (fun _ _ => rep_int) op_pow A r1 r2 rv rv2 ⟨hc.1, by omega, Nat.lt_trans hc.2.2 (by decide)⟩ q
       · exact (show False from q).elim)
open PySem.W in
mutual
theorem alike_toD : ∀ (x y : PV), pvalk x y = true → PySem.W.alike (toD x) (toD y) = true
  | .non, y, h => by cases y <;> first | rfl | cases h
  | .bl _, y, h => by cases y <;> first | rfl | cases h
  | .int _, y, h => by cases y <;> first | rfl | cases h
  | .str _, y, h => by cases y <;> first | rfl | cases h
  | .tup xs, y, h => by
    cases y with
    | tup ys =>
      show PySem.W.alike (.tuple (toDL xs)) (.tuple (toDL ys)) = true
      unfold PySem.W.alike
      exact alike_toDL xs ys h
    | _ => cases h
  | .lst xs, y, h => by
    cases y with
    | lst ys =>
      show PySem.W.alike (.list (toDL xs)) (.list (toDL ys)) = true
      unfold PySem.W.alike
      exact alike_toDL xs ys h
    | _ => cases h
  | .ptr _, y, h => by cases y <;> cases h
  | .scr _, y, h => by cases y <;> cases h
  | .exn _, y, h => by cases y <;> cases h
theorem alike_toDL : ∀ (xs ys : List PV), pvalkL xs ys = true → PySem.W.alikeAll (toDL xs) (toDL ys) = true
  | [], ys, h => by unfold toDL; cases ys <;> (unfold PySem.W.alikeAll; rfl)
  | x :: xs, [], h => by unfold toDL PySem.W.alikeAll; rfl
  | x :: xs, y :: ys, h => by
    have h : (pvalk x y && pvalkL xs ys) = true := h
    rw [Bool.and_eq_true] at h
    show PySem.W.alikeAll (toD x :: toDL xs) (toD y :: toDL ys) = true
    unfold PySem.W.alikeAll
    rw [alike_toD x y h.1, alike_toDL xs ys h.2]
    rfl
end
theorem pvalkL_cons {x y : PV} {xs ys : List PV} (h : pvalkL (x :: xs) (y :: ys) = true) : pvalk x y = true ∧ pvalkL xs ys = true := by
  have h : (pvalk x y && pvalkL xs ys) = true := h
  rwa [Bool.and_eq_true] at h
mutual
theorem lt_toD : ∀ (x y : PV) (i j : Nat), dep x = some i → dep y = some j → pvalk x y = true → x ≠ .non → PySem.W.dataLt (toD x) (toD y) = pvlt x y
  | .non, y, i, j, d1, d2, h, z => absurd rfl z
  | .bl a, y, i, j, d1, d2, h, z => by
    cases y with
    | bl b =>
      show PySem.W.dataLt (.bool a) (.bool b) = (!a && b)
      rw [PySem.W.dataLt_bool]
      cases a <;> cases b <;> rfl
    | _ => cases h
  | .int a, y, i, j, d1, d2, h, z => by
    cases y with
    | int b => exact PySem.W.dataLt_int a b
    | _ => cases h
  | .str a, y, i, j, d1, d2, h, z => by
    cases y with
    | str b => exact PySem.W.dataLt_str _ _
    | _ => cases h
  | .tup xs, y, i, j, d1, d2, h, z => by
    cases y with
    | tup ys =>
      obtain ⟨a, e1, rfl⟩ := dep_tup d1
      obtain ⟨b, e2, rfl⟩ := dep_tup d2
      exact (PySem.W.dataLt_tuple _ _).trans (lt_toDL xs ys a b e1 e2 h)
    | _ => cases h
  | .lst xs, y, i, j, d1, d2, h, z => by
    cases y with
    | lst ys =>
      obtain ⟨a, e1, rfl⟩ := dep_lst d1
      obtain ⟨b, e2, rfl⟩ := dep_lst d2
      exact (PySem.W.dataLt_list _ _).trans (lt_toDL xs ys a b e1 e2 h)
    | _ => cases h
  | .ptr _, y, i, j, d1, d2, h, z => by cases d1
  | .scr _, y, i, j, d1, d2, h, z => by cases d1
  | .exn _, y, i, j, d1, d2, h, z => by cases d1
theorem lt_toDL : ∀ (xs ys : List PV) (i j : Nat), depL xs = some i → depL ys = some j → pvalkL xs ys = true → PyProof.Rows.lexLt PyProof.Rows.itemOrd (PySem.W.keyToksAll (toDL xs)) (PySem.W.keyToksAll (toDL ys)) = pvltL xs ys
  | [], [], i, j, d1, d2, h => by unfold toDL PySem.W.keyToksAll; decide
  | [], y :: ys, i, j, d1, d2, h => by
    show PyProof.Rows.lexLt PyProof.Rows.itemOrd (PySem.W.keyToksAll []) (PySem.W.keyToksAll (toD y :: toDL ys)) = true
    rw [PySem.W.toks_all_cons]
    simp only [PySem.W.keyToksAll]
    rw [PyProof.Rows.lex_diff (O := PyProof.Rows.itemOrd) (by simp)]
    simp [PyProof.Rows.lexLt, PyProof.Rows.itemLt]
  | x :: xs, [], i, j, d1, d2, h => by
    show PyProof.Rows.lexLt PyProof.Rows.itemOrd (PySem.W.keyToksAll (toD x :: toDL xs)) (PySem.W.keyToksAll []) = false
    rw [PySem.W.toks_all_cons]
    simp only [PySem.W.keyToksAll]
    rw [PyProof.Rows.lex_diff (O := PyProof.Rows.itemOrd) (by simp)]
    simp [PyProof.Rows.lexLt, PyProof.Rows.itemLt]
  | x :: xs, y :: ys, i, j, d1, d2, h => by
    obtain ⟨a, b, e1, e2, rfl⟩ := depL_cons d1
    obtain ⟨c, d, e3, e4, rfl⟩ := depL_cons d2
    obtain ⟨h1, h2⟩ := pvalkL_cons h
    have al := alike_toD x y h1
    show PyProof.Rows.lexLt PyProof.Rows.itemOrd (PySem.W.keyToksAll (toD x :: toDL xs)) (PySem.W.keyToksAll (toD y :: toDL ys)) = (if pveq x y = true then pvltL xs ys else pvlt x y)
    have eq := eqv_toD x y a c e1 e3
    cases hx : pveq x y with
    | true => rw [PySem.W.dataLt_all_yes al (eq.trans hx), if_pos rfl]; exact lt_toDL xs ys b d e2 e4 h2
    | false =>
      rw [PySem.W.dataLt_all_no al (eq.trans hx), if_neg Bool.false_ne_true]
      refine lt_toD x y a c e1 e3 h1 fun z => ?_
      subst z
      cases y <;> simp [pveq, pvalk] at hx h1
end
theorem lt_dat (hK : X.K = p.K) (hr : Room n X.A) {pins : List (Addr × Obj)} {s : Shared} {σ : L2.St} {ρ : Env} {x y : PV} {u w : Value} {v v2 : V} {Q : VK} {W' : XK} {b : Bool} (A : At p X pins σ s ρ M S H) (r1 : Rep p.K M H x v) (r2 : Rep p.K M H y v2) (rv : RelV v u) (rv2 : RelV v2 w) (hc : eqOk x y = true) (hk : pvalk x y = true) (hn : x ≠ .non) (hb : pvlt x y = b)
    (q : Post p (Rep p.K) (rok (.bl b) S) M H Q W') : wpAny (model X.prog X.w) X.A (compareOp .Lt u w) (EP X pins σ Q) X.xe s := by
  obtain ⟨i, j, e1, e2, hm⟩ := eqOk_some hc
  have d1 := rep_dp x i v e1 r1
  have d2 := rep_dp y j v2 e2 r2
  rw [← hK] at d1 d2
  obtain ⟨as, ra⟩ := Dp.reads A.inv _ v u d1 rv
  obtain ⟨bs, rb⟩ := Dp.reads A.inv _ v2 w d2 rv2
  refine PySem.W.lt_data ra rb (alike_toD x y hk) (fun z => ?_) (by rw [depth_toD _ i e1, depth_toD _ j e2]; exact room_eq hr hm) ?_
  · cases x <;> simp [toD, dep] at hn z e1
  · rw [lt_toD x y i j e1 e2 hk hn, hb]
    exact ⟨.bl _, H, A.inv, rfl, fin0 A q rep_bl⟩
theorem ob_lt (hK : X.K = p.K) (hr : Room n X.A) : OpB p X (compareOp .Lt) .lt := by
  intro pins s σ ρ M S H x y v v2 u w Q W' A r1 r2 rv rv2 q
  cases x <;> cases y <;> first
    | exact (show False from q).elim
    | (rename_i xs ys
       unfold b2 at q
       simp only at q
       split at q
       · rename_i hh
         rw [Bool.and_eq_true] at hh
         exact lt_dat hK hr A r1 r2 rv rv2 hh.1 hh.2 (fun z => by cases z) rfl q
       · exact (show False from q).elim)
    | exact ob_int2 (o := .lt) (gp := fun i j => .bl (decide (i < j))) (fun _ _ => rep_bl) (rI0_rI op_lt) A r1 r2 rv rv2 True.intro q
    | (rename_i i j
       unfold Rep at r1 r2
       obtain ⟨rfl, _⟩ := r1
       obtain ⟨rfl, _⟩ := r2
       exact op_lt_str pins s σ H _ _ u w Q A.inv rv rv2 ⟨_, _, rfl, rfl, fin0 A (x := .bl (decide (i < j))) q rep_bl⟩)
theorem ob_le : OpB p X (compareOp .LtE) .le := by
  intro pins s σ ρ M S H x y v v2 u w Q W' A r1 r2 rv rv2 q
  cases x <;> cases y <;> first
    | exact (show False from q).elim
    | exact ob_int2 (o := .le) (gp := fun i j => .bl (decide (i ≤ j))) (fun _ _ => rep_bl) (rI0_rI op_le) A r1 r2 rv rv2 True.intro q
theorem ob_gt : OpB p X (compareOp .Gt) .gt := by
  intro pins s σ ρ M S H x y v v2 u w Q W' A r1 r2 rv rv2 q
  cases x <;> cases y <;> first
    | exact (show False from q).elim
    | exact ob_int2 (o := .gt) (gp := fun i j => .bl (decide (j < i))) (fun _ _ => rep_bl) (rI0_rI op_gt) A r1 r2 rv rv2 True.intro q
theorem ob_ge : OpB p X (compareOp .GtE) .ge := by
  intro pins s σ ρ M S H x y v v2 u w Q W' A r1 r2 rv rv2 q
  cases x <;> cases y <;> first
    | exact (show False from q).elim
    | exact ob_int2 (o := .ge) (gp := fun i j => .bl (decide (j ≤ i))) (fun _ _ => rep_bl) (rI0_rI op_ge) A r1 r2 rv rv2 True.intro q
    | (rename_i i j
       unfold Rep at r1 r2
       obtain ⟨rfl, _⟩ := r1
       obtain ⟨rfl, _⟩ := r2
       exact op_ge_str pins s σ H _ _ u w Q A.inv rv rv2 ⟨_, _, rfl, rfl, fin0 A (x := .bl (!decide (i < j))) q rep_bl⟩)
theorem rep_non_iff {x : PV} {v : V} (r : Rep K M H x v) : decide (v = .non) = (match x with | .non => true | _ => false) := by
  cases x with
  | non => unfold Rep at r; subst r; rfl
  | bl b => unfold Rep at r; subst r; rfl
  | int b => unfold Rep at r; subst r; rfl
  | str b => unfold Rep at r; obtain ⟨rfl, _⟩ := r; rfl
  | tup b => unfold Rep at r; obtain ⟨a, vs, rfl, _⟩ := r; rfl
  | lst b => unfold Rep at r; obtain ⟨a, vs, rfl, _⟩ := r; rfl
  | ptr b => unfold Rep at r; obtain ⟨a, rfl, _⟩ := r; rfl
  | scr b => unfold Rep at r; obtain ⟨a, rfl, _⟩ := r; rfl
  | exn b => unfold Rep at r; subst r; rfl
theorem ob_is : OpB p X (compareOp .Is) .is := by
  intro pins s σ ρ M S H x y v v2 u w Q W' A r1 r2 rv rv2 q
  cases y with
  | non =>
    unfold Rep at r2
    subst r2
    refine op_isN pins s σ H _ _ u w Q A.inv rv rv2 ⟨rfl, ?_⟩
    rw [rep_non_iff r1]
    cases x <;> exact fin0 A q rep_bl
  | bl b =>
    cases x with
    | bl a =>
      unfold Rep at r1 r2
      subst r1 r2
      exact op_isBl pins s σ H _ _ u w Q A.inv rv rv2 ⟨a, b, rfl, rfl, fin0 A (x := .bl (decide (a = b))) (by rw [← Bool.beq_eq_decide_eq]; exact q) rep_bl⟩
    | non =>
      unfold Rep at r1 r2
      subst r1 r2
      cases rv
      cases rv2
      exact wpAny_is_other rfl (fun z => nomatch z) ⟨.bl _, H, A.inv, rfl, fin0 A q rep_bl⟩
    | tup xs =>
      unfold Rep at r1 r2
      obtain ⟨a, vs, rfl, _⟩ := r1
      subst r2
      cases rv
      cases rv2
      exact wpAny_is_other rfl (fun z => nomatch z) ⟨.bl _, H, A.inv, rfl, fin0 A q rep_bl⟩
    | _ => exact (show False from q).elim
  | _ => cases x <;> exact (show False from q).elim
theorem ob_isnot : OpB p X (compareOp .IsNot) .isnot := by
  intro pins s σ ρ M S H x y v v2 u w Q W' A r1 r2 rv rv2 q
  cases y with
  | non =>
    unfold Rep at r2
    subst r2
    refine op_notN pins s σ H _ _ u w Q A.inv rv rv2 ⟨rfl, ?_⟩
    rw [rep_non_iff r1]
    cases x <;> exact fin0 A q rep_bl
  | bl b =>
    cases x with
    | bl a =>
      unfold Rep at r1 r2
      subst r1 r2
      exact op_notBl pins s σ H _ _ u w Q A.inv rv rv2 ⟨a, b, rfl, rfl, fin0 A (x := .bl (!decide (a = b))) (by rw [← Bool.beq_eq_decide_eq]; exact q) rep_bl⟩
    | non =>
      unfold Rep at r1 r2
      subst r1 r2
      cases rv
      cases rv2
      exact wpAny_isNot_other rfl (fun z => nomatch z) ⟨.bl _, H, A.inv, rfl, fin0 A q rep_bl⟩
    | tup xs =>
      unfold Rep at r1 r2
      obtain ⟨a, vs, rfl, _⟩ := r1
      subst r2
      cases rv
      cases rv2
      exact wpAny_isNot_other rfl (fun z => nomatch z) ⟨.bl _, H, A.inv, rfl, fin0 A q rep_bl⟩
    | _ => exact (show False from q).elim
  | _ => cases x <;> exact (show False from q).elim
/-- x in a list or a tuple, by data -/
theorem any_toD : ∀ (ys : List PV) (x : PV) (i j : Nat), depL ys = some i → dep x = some j → ((toDL ys).any fun z => PyData.eqv z (toD x)) = ys.any fun y => pveq y x
  | [], _, _, _, _, _ => rfl
  | y :: ys, x, i, j, h1, h2 => by
    obtain ⟨a, b, e1, e2, rfl⟩ := depL_cons h1
    show (PyData.eqv (toD y) (toD x) || _) = (pveq y x || _)
    rw [eqv_toD y x a j e1 h2, any_toD ys x b j e2 h2]
theorem room_in {i j : Nat} {A : Around} {n : Nat} (hr : Room n A) (h : min (i + 1) j ≤ 40) : A.units + 1 + min i j < cLine := by have := hr.units; omega
theorem ob_inn (hK : X.K = p.K) (hr : Room n X.A) : OpB p X (compareOp .In) .inn := by
  intro pins s σ ρ M S H x y v v2 u w Q W' A r1 r2 rv rv2 q
  have seqs : ∀ (t : Bool) (ys : List PV) (vs : List V) (qa : Addr), v2 = .ref qa → (if t then SqT p.K H qa vs else SqL p.K H qa vs) → RepL p.K M H ys vs → Post p (Rep p.K) (if eqOk (if t then .tup ys else .lst ys) x then rok (.bl (ys.any fun y => pveq y x)) S else .bad) M H Q W' → wpAny (model X.prog X.w) X.A (compareOp .In u w) (EP X pins σ Q) X.xe s := by
    intro t ys vs qa e hs rl q
    subst e
    by_cases hc : eqOk (if t then .tup ys else .lst ys) x = true
    · rw [if_pos hc] at q
      obtain ⟨i, j, e1, e2, hm⟩ := eqOk_some hc
      obtain ⟨i', ei, rfl⟩ : ∃ i', depL ys = some i' ∧ i = i' + 1 := by
        cases t with
        | true => exact dep_tup e1
        | false => exact dep_lst e1
      have d1 := rep_dp x j v e2 r1
      have l1 := rep_lay x v r1
      have l2 := rep_layL ys vs rl
      have dl := rep_dpL ys i' vs ei rl
      rw [← hK] at d1
      obtain ⟨as, ra⟩ := Dp.reads A.inv _ v u d1 rv
      have fin : EP X pins σ Q (.bool (ys.any fun y => pveq y x)) s := ⟨.bl _, H, A.inv, rfl, fin0 A q rep_bl⟩
      cases t with
      | true =>
        have d2 : Dp X.K H (.ref qa) (.tuple (toDL ys)) := by rw [hK]; exact .tup hs dl
        obtain ⟨bs, rb⟩ := Dp.reads A.inv _ _ w d2 rv2
        refine SeqAt.in_tuple_reads rb ra l2 l1 (by rw [depth_toDL _ i' ei, depth_toD _ j e2]; exact room_in hr hm) ?_
        rw [any_toD ys x i' j ei e2]
        exact fin
      | false =>
        have d2 : Dp X.K H (.ref qa) (.list (toDL ys)) := by rw [hK]; exact .lst hs dl
        obtain ⟨bs, rb⟩ := Dp.reads A.inv _ _ w d2 rv2
        refine SeqAt.in_list_reads rb ra l2 l1 (by rw [depth_toDL _ i' ei, depth_toD _ j e2]; exact room_in hr hm) ?_
        rw [any_toD ys x i' j ei e2]
        exact fin
    · rw [if_neg hc] at q; exact (show False from q).elim
  unfold b2 at q
  rcases rep_res A.ok r2 with ⟨m, ys, qa, vs, rfl, e, rfl, hq, rl⟩ | ⟨e, np⟩
  · rw [e] at q
    have q' : Post p (Rep p.K) (if eqOk (.lst ys) x then rok (.bl (ys.any fun y => pveq y x)) S else .bad) M H Q W' := by
      cases x <;> exact q
    exact seqs false ys vs qa rfl (.of hq) rl q'
  · rw [e] at q
    cases y with
    | tup ys =>
      unfold Rep at r2
      obtain ⟨qa, vs, e2, h1, h2⟩ := r2
      have q' : Post p (Rep p.K) (if eqOk (.tup ys) x then rok (.bl (ys.any fun y => pveq y x)) S else .bad) M H Q W' := by cases x <;> exact q
      exact seqs true ys vs qa e2 h1.sq h2 q'
    | lst ys =>
      unfold Rep at r2
      obtain ⟨qa, vs, e2, h1, h2⟩ := r2
      have q' : Post p (Rep p.K) (if eqOk (.lst ys) x then rok (.bl (ys.any fun y => pveq y x)) S else .bad) M H Q W' := by cases x <;> exact q
      exact seqs false ys vs qa e2 h1.sq h2 q'
    | str b =>
      cases x with
      | str a =>
        match a with
        | [c] =>
          unfold Rep at r1 r2
          obtain ⟨rfl, _⟩ := r1
          obtain ⟨rfl, _⟩ := r2
          refine op_in_sign pins s σ H _ _ u w Q A.inv rv rv2 ⟨c, SS b, rfl, rfl, ?_⟩
          have : decide (c ∈ (SS b).cps.toList) = b.contains c := by
            show decide (c ∈ b) = b.contains c
            simp
          rw [this]
          exact fin0 A q rep_bl
        | [] => exact (show False from q).elim
        | _ :: _ :: _ => exact (show False from q).elim
      | _ => exact (show False from q).elim
    | _ => cases x <;> exact (show False from q).elim
theorem ob_notin (hK : X.K = p.K) (hr : Room n X.A) : OpB p X (compareOp .NotIn) .notin := by
  intro pins s σ ρ M S H x y v v2 u w Q W' A r1 r2 rv rv2 q
  have seqs : ∀ (t : Bool) (ys : List PV) (vs : List V) (qa : Addr), v2 = .ref qa → (if t then SqT p.K H qa vs else SqL p.K H qa vs) → RepL p.K M H ys vs → Post p (Rep p.K) (if eqOk (if t then .tup ys else .lst ys) x then rok (.bl (!ys.any fun y => pveq y x)) S else .bad) M H Q W' → wpAny (model X.prog X.w) X.A (compareOp .NotIn u w) (EP X pins σ Q) X.xe s := by
    intro t ys vs qa e hs rl q
    subst e
    by_cases hc : eqOk (if t then .tup ys else .lst ys) x = true
    · rw [if_pos hc] at q
      obtain ⟨i, j, e1, e2, hm⟩ := eqOk_some hc
      obtain ⟨i', ei, rfl⟩ : ∃ i', depL ys = some i' ∧ i = i' + 1 := by
        cases t with
        | true => exact dep_tup e1
        | false => exact dep_lst e1
      have d1 := rep_dp x j v e2 r1
      have l1 := rep_lay x v r1
      have l2 := rep_layL ys vs rl
      have dl := rep_dpL ys i' vs ei rl
      rw [← hK] at d1
      obtain ⟨as, ra⟩ := Dp.reads A.inv _ v u d1 rv
      have fin : EP X pins σ Q (.bool (!ys.any fun y => pveq y x)) s := ⟨.bl _, H, A.inv, rfl, fin0 A q rep_bl⟩
      cases t with
      | true =>
        have d2 : Dp X.K H (.ref qa) (.tuple (toDL ys)) := by rw [hK]; exact .tup hs dl
        obtain ⟨bs, rb⟩ := Dp.reads A.inv _ _ w d2 rv2
        refine SeqAt.notIn_tuple_reads rb ra l2 l1 (by rw [depth_toDL _ i' ei, depth_toD _ j e2]; exact room_in hr hm) ?_
        rw [any_toD ys x i' j ei e2]
        exact fin
      | false =>
        have d2 : Dp X.K H (.ref qa) (.list (toDL ys)) := by rw [hK]; exact .lst hs dl
        obtain ⟨bs, rb⟩ := Dp.reads A.inv _ _ w d2 rv2
        refine SeqAt.notIn_list_reads rb ra l2 l1 (by rw [depth_toDL _ i' ei, depth_toD _ j e2]; exact room_in hr hm) ?_
        rw [any_toD ys x i' j ei e2]
        exact fin
    · rw [if_neg hc] at q; exact (show False from q).elim
  unfold b2 at q
  rcases rep_res A.ok r2 with ⟨m, ys, qa, vs, rfl, e, rfl, hq, rl⟩ | ⟨e, np⟩
  · rw [e] at q
    have q' : Post p (Rep p.K) (if eqOk (.lst ys) x then rok (.bl (!ys.any fun y => pveq y x)) S else .bad) M H Q W' := by
      cases x <;> exact q
    exact seqs false ys vs qa rfl (.of hq) rl q'
  · rw [e] at q
    cases y with
    | tup ys =>
      unfold Rep at r2
      obtain ⟨qa, vs, e2, h1, h2⟩ := r2
      have q' : Post p (Rep p.K) (if eqOk (.tup ys) x then rok (.bl (!ys.any fun y => pveq y x)) S else .bad) M H Q W' := by cases x <;> exact q
      exact seqs true ys vs qa e2 h1.sq h2 q'
    | lst ys =>
      unfold Rep at r2
      obtain ⟨qa, vs, e2, h1, h2⟩ := r2
      have q' : Post p (Rep p.K) (if eqOk (.lst ys) x then rok (.bl (!ys.any fun y => pveq y x)) S else .bad) M H Q W' := by cases x <;> exact q
      exact seqs false ys vs qa e2 h1.sq h2 q'
    | str b =>
      cases x with
      | str a =>
        match a with
        | [c] =>
          unfold Rep at r1 r2
          obtain ⟨rfl, _⟩ := r1
          obtain ⟨rfl, _⟩ := r2
          refine op_notIn_sign pins s σ H _ _ u w Q A.inv rv rv2 ⟨c, SS b, rfl, rfl, ?_⟩
          have : decide (c ∈ (SS b).cps.toList) = b.contains c := by
            show decide (c ∈ b) = b.contains c
            simp
          rw [this]
          exact fin0 A q rep_bl
        | [] => exact (show False from q).elim
        | _ :: _ :: _ => exact (show False from q).elim
      | _ => exact (show False from q).elim
    | _ => cases x <;> exact (show False from q).elim
theorem ob_add (hK : X.K = p.K) : OpB p X (binaryOp .Add) .add := by
  intro pins s σ ρ M S H x y v v2 u w Q W' A r1 r2 rv rv2 q
  have lsts : ∀ (xs ys : List PV) (vs ws : List V) (a b : Addr), v = .ref a → v2 = .ref b → H a = some (.lst vs) → H b = some (.lst ws) → RepL p.K M H xs vs → RepL p.K M H ys ws →
      Post p (Rep p.K) (if xs.length + ys.length ≤ SL then rok (.lst (xs ++ ys)) S else .bad) M H Q W' → wpAny (model X.prog X.w) X.A (binaryOp .Add u w) (EP X pins σ Q) X.xe s := by
    intro xs ys vs ws a b e1 e2 h1 h2 l1 l2 q
    subst e1 e2
    split at q
    · rename_i hl
      refine op_cat pins s σ H _ _ u w Q A.inv rv rv2 ⟨a, b, vs, ws, rfl, rfl, h1, h2, by rw [← l1.length, ← l2.length, ← SL_eq]; exact hl, fun c hc => ?_⟩
      exact fin_new q A.ok hc (new_lst (s := A.ok) hc (l1.append l2))
    · exact (show False from q).elim
  by_cases hx : ∃ i, x = .int i
  · obtain ⟨i, rfl⟩ := hx
    cases y <;> first
      | exact ob_int2 (o := .add) (gp := fun i j => .int (i + j)) (fun _ _ => rep_int) (rI0_rI op_add) A r1 r2 rv rv2 True.intro q
      | skip
    case ptr m =>
      have q' : Post p (Rep p.K) (match res S (.int i), res S (.ptr m) with | .lst a, .lst b => if a.length + b.length ≤ SL then rok (.lst (a ++ b)) S else .bad | _, _ => .bad) M H Q W' := q
      exact (show False from q').elim
    all_goals exact (show False from q).elim
  by_cases hbl : ∃ b, x = .bl b
  · obtain ⟨b, rfl⟩ := hbl
    cases y
    case int j => exact ob_bi (fun h => PySem.IntBool.add_bool_int h) A r1 r2 rv rv2 q
    case ptr m =>
      have q' : Post p (Rep p.K) (match res S (.bl b), res S (.ptr m) with | .lst a, .lst b => if a.length + b.length ≤ SL then rok (.lst (a ++ b)) S else .bad | _, _ => .bad) M H Q W' := q
      exact (show False from q').elim
    all_goals exact (show False from q).elim
  by_cases hs : ∃ a, x = .str a
  · obtain ⟨a, rfl⟩ := hs
    cases y
    case str b =>
      have q' : Post p (Rep p.K) (if a.length + b.length ≤ SL then rok (.str (a ++ b)) S else .bad) M H Q W' := q
      split at q'
      · rename_i hl
        unfold Rep at r1 r2
        obtain ⟨rfl, o1⟩ := r1
        obtain ⟨rfl, o2⟩ := r2
        refine op_add_str pins s σ H _ _ u w Q A.inv rv rv2 ⟨_, _, rfl, rfl, by rw [SS_len, SS_len, ← SL_eq]; exact hl, ?_⟩
        rw [SS_app]
        exact fin0 A q' (by unfold Rep; exact ⟨rfl, okS_app o1 o2 hl⟩)
      · exact (show False from q').elim
    all_goals exact (show False from q).elim
  by_cases ht : ∃ a, x = .tup a
  · obtain ⟨xs, rfl⟩ := ht
    cases y
    case tup ys =>
      have q' : Post p (Rep p.K) (if xs.length + ys.length ≤ SL then rok (.tup (xs ++ ys)) S else .bad) M H Q W' := q
      split at q'
      · rename_i hl
        have r1' := r1
        have r2' := r2
        unfold Rep at r1 r2
        obtain ⟨a, vs, rfl, h1, l1⟩ := r1
        obtain ⟨b, ws, rfl, h2, l2⟩ := r2
        cases rv
        cases rv2
        obtain ⟨its, t1, p1, _⟩ := A.inv.tuple (h1.sq (K := X.K))
        obtain ⟨its2, t2, p2, _⟩ := A.inv.tuple (h2.sq (K := X.K))
        have hz : vs.length + ws.length ≤ sizeLine := by rw [← l1.length, ← l2.length, ← SL_eq]; exact hl
        by_cases e1 : vs = []
        · have ex : xs = [] := by
            have := l1.length
            rw [e1] at this
            exact List.eq_nil_of_length_eq_zero this
          rw [ex, List.nil_append] at q'
          subst e1
          cases t1
          exact cat_tup0 p1 p2 ⟨.ref b, H, A.inv, rfl, fin0 A q' r2'⟩
        refine HT.cat_tup p1 p2 (fun z => e1 (t1.nil_iff.mp z)) (fun z => ?_) (fun z => ?_) (by rw [← t1.length, ← t2.length]; exact hz)
        · have e2 : ws = [] := t2.nil_iff.mp z
          have ex : ys = [] := by
            have := l2.length
            rw [e2] at this
            exact List.eq_nil_of_length_eq_zero this
          rw [ex, List.append_nil] at q'
          exact ⟨.ref a, H, A.inv, rfl, fin0 A q' r1'⟩
        · exact fin_tup (t' := s.toks) A q' (l1.append l2) (t1.append t2) (by rw [List.length_append]; exact hz)
      · exact (show False from q').elim
    all_goals exact (show False from q).elim
  have q' : Post p (Rep p.K) (match res S x, res S y with | .lst a, .lst b => if a.length + b.length ≤ SL then rok (.lst (a ++ b)) S else .bad | _, _ => .bad) M H Q W' := by
    cases x <;> first
      | exact q
      | exact absurd ⟨_, rfl⟩ hx
      | exact absurd ⟨_, rfl⟩ hbl
      | exact absurd ⟨_, rfl⟩ hs
      | exact absurd ⟨_, rfl⟩ ht
  have lst_of : ∀ (z : PV) (vz : V) (zs : List PV), Rep p.K M H z vz → res S z = .lst zs → ∃ a vs, vz = .ref a ∧ H a = some (.lst vs) ∧ RepL p.K M H zs vs := by
    intro z vz zs rz e
    rcases rep_res A.ok rz with ⟨m, ys, qa, vs, rfl, e', rfl, hq, rl⟩ | ⟨e', np⟩
    · rw [e'] at e; cases e
      exact ⟨qa, vs, rfl, hq, rl⟩
    · rw [e'] at e; subst e
      unfold Rep at rz
      obtain ⟨a, vs, e, h, l⟩ := rz
      exact ⟨a, vs, e, h.1, l⟩
  split at q'
  · rename_i xs ys e1 e2
    obtain ⟨a, vs, ea, ha, la⟩ := lst_of x v xs r1 e1
    obtain ⟨b, ws, eb, hb, lb⟩ := lst_of y v2 ys r2 e2
    exact lsts xs ys vs ws a b ea eb ha hb la lb q'
  · exact (show False from q').elim
theorem RepL.atI {xs : List PV} {vs : List V} {i : Int} {x : PV} (h : RepL K M H xs vs) (e : L2.atI xs i = some x) : ∃ v, L2.atI vs i = some v ∧ Rep K M H x v := by
  unfold L2.atI at e ⊢
  rw [← h.length]
  cases z : ixN xs.length i with
  | none => rw [z] at e; cases e
  | some j =>
    rw [z] at e
    exact h.get e
theorem plainIx_ok {b : Expr} (h : plainIx b = true) : PlainIx b := by
  cases b <;> first | exact (fun _ _ => rfl) | exact absurd h (by simp [plainIx])
theorem okS_one {xs : List Nat} {c : Nat} (h : okS xs = true) (hc : c ∈ xs) : okS [c] = true := by
  unfold okS at h ⊢
  rw [Bool.and_eq_true] at h ⊢
  have := List.all_eq_true.mp h.1 c hc
  exact ⟨by simp only [List.all_cons, List.all_nil, this, Bool.and_self], by simp⟩
theorem atI_mem {α : Type} {xs : List α} {i : Int} {v : α} (h : L2.atI xs i = some v) : v ∈ xs := by
  obtain ⟨j, _, e, _⟩ := atI_get h
  exact List.mem_of_getElem? e
theorem ob_idx (hK : X.K = p.K) (a b : Expr) (hp : plainIx b = true) (pins : List (Addr × Obj)) (s : Shared) (σ : L2.St) (ρ : Env) (M : Ms) (S : Store) (H : Hp) (x y : PV) (v v2 : V) (u w : Value) (Q : VK) (W' : XK) (A : At p X pins σ s ρ M S H) (r1 : Rep p.K M H x v) (r2 : Rep p.K M H y v2) (rv : RelV v u) (rv2 : RelV v2 w)
    (q : Post p (Rep p.K) (b2 .idx x y S) M H Q W') : wpAny (model X.prog X.w) X.A (subscriptTail a b u w) (EP X pins σ Q) X.xe s := by
  have hs := plainIx_ok hp u w
  unfold b2 at q
  cases y with
  | int i =>
    unfold Rep at r2
    subst r2
    rcases rep_res A.ok r1 with ⟨m, xs, qa, vs, rfl, e, rfl, hq, rl⟩ | ⟨e, np⟩
    · rw [e] at q
      simp only at q
      split at q
      · rename_i z ez
        obtain ⟨vz, ev, rz⟩ := rl.atI ez
        exact ix_list a b pins s σ H _ _ u w Q A.inv rv rv2 ⟨qa, vs, i, vz, rfl, rfl, .of hq, ev, fin0 A q rz⟩ hs
      · exact (show False from q).elim
    · rw [e] at q
      cases x with
      | tup xs =>
        simp only at q
        split at q
        · rename_i z ez
          unfold Rep at r1
          obtain ⟨qa, vs, rfl, h1, rl⟩ := r1
          obtain ⟨vz, ev, rz⟩ := rl.atI ez
          exact ix_tup a b pins s σ H _ _ u w Q A.inv rv rv2 ⟨qa, vs, i, vz, rfl, rfl, h1.sq, ev, fin0 A q rz⟩ hs
        · exact (show False from q).elim
      | lst xs =>
        simp only at q
        split at q
        · rename_i z ez
          unfold Rep at r1
          obtain ⟨qa, vs, rfl, h1, rl⟩ := r1
          obtain ⟨vz, ev, rz⟩ := rl.atI ez
          exact ix_list a b pins s σ H _ _ u w Q A.inv rv rv2 ⟨qa, vs, i, vz, rfl, rfl, h1.sq, ev, fin0 A q rz⟩ hs
        · exact (show False from q).elim
      | str xs =>
        simp only at q
        split at q
        · rename_i z ez
          unfold Rep at r1
          obtain ⟨rfl, o⟩ := r1
          refine ix_str a b pins s σ H _ _ u w Q A.inv rv rv2 ⟨SS xs, i, z, rfl, rfl, ?_, ez, fin0 A q (by unfold Rep; exact ⟨rfl, okS_one o (atI_mem ez)⟩)⟩ hs
          rw [SS_len, ← SL_eq]
          unfold okS at o
          rw [Bool.and_eq_true] at o
          exact of_decide_eq_true o.2
        · exact (show False from q).elim
      | scr xs =>
        simp only at q
        split at q
        · rename_i z ez
          unfold Rep at r1
          obtain ⟨qa, rfl, h1⟩ := r1
          refine ix_list a b pins s σ H _ _ u w Q A.inv rv rv2 ⟨qa, xs.map V.int, i, .int z, rfl, rfl, hK ▸ h1.sq, ?_, fin0 A q rep_int⟩ hs
          unfold L2.atI at ez ⊢
          rw [List.length_map]
          cases k : ixN xs.length i with
          | none => rw [k] at ez; cases ez
          | some j =>
            rw [k] at ez
            show (xs.map V.int)[j]? = _
            rw [List.getElem?_map]
            have ez : xs[j]? = some z := ez
            rw [ez]; rfl
        · exact (show False from q).elim
      | ptr m => exact (show False from q).elim
      | _ => exact (show False from q).elim
  | _ => cases h : res S x <;> rw [h] at q <;> exact (show False from q).elim
end G
set_option maxHeartbeats 1000000
namespace G
open PySem PySem.Spec PyProof.Rows L2
variable {p : Pm} {X : Cx} {W : WX} {M : Ms} {H : Hp} {S : Store} {K : PySem.W.Frag}
theorem not_lt_trans {a b c : List Nat} (h1 : ¬ b < a) (h2 : ¬ c < b) : ¬ c < a := List.not_lt.mpr (List.le_trans (List.not_lt.mp h1) (List.not_lt.mp h2))
theorem insS_perm (x : List Nat) : ∀ l, (insS x l).Perm (x :: l)
  | [] => .refl _
  | y :: r => by
    unfold insS
    split
    · exact .refl _
    · exact ((insS_perm x r).cons y).trans (.swap x y r)
theorem sortS_perm : ∀ l, (sortS l).Perm l
  | [] => .refl _
  | x :: r => by
    unfold sortS
    exact (insS_perm x (sortS r)).trans ((sortS_perm r).cons x)
abbrev Up (l : List (List Nat)) : Prop := l.Pairwise fun a b => ¬ b < a
theorem insS_up (x : List Nat) : ∀ l, Up l → Up (insS x l)
  | [], _ => by unfold insS; simp
  | y :: r, h => by
    unfold insS
    have hp := List.pairwise_cons.mp h
    split
    · rename_i hl
      refine List.pairwise_cons.mpr ⟨fun z hz => ?_, h⟩
      have hxy : ¬ y < x := List.not_lt.mpr (List.le_of_lt hl)
      rcases List.mem_cons.mp hz with rfl | hz
      · exact hxy
      · exact not_lt_trans hxy (hp.1 z hz)
    · rename_i hl
      refine List.pairwise_cons.mpr ⟨fun z hz => ?_, insS_up x r hp.2⟩
      rcases List.mem_cons.mp ((insS_perm x r).mem_iff.mp hz) with rfl | hz
      · exact hl
      · exact hp.1 z hz
theorem sortS_up : ∀ l, Up (sortS l)
  | [] => .nil
  | x :: r => by
    unfold sortS
    exact insS_up x _ (sortS_up r)
theorem up_unique : ∀ {a b : List (List Nat)}, a.Perm b → Up a → Up b → a = b
  | [], b, h, _, _ => (List.nil_perm.mp h).symm
  | x :: a, [], h, _, _ => absurd h.length_eq (by simp)
  | x :: a, y :: b, h, ha, hb => by
    have pa := List.pairwise_cons.mp ha
    have pb := List.pairwise_cons.mp hb
    have e : x = y := by
      have hx : x ∈ y :: b := h.mem_iff.mp List.mem_cons_self
      have hy : y ∈ x :: a := h.mem_iff.mpr List.mem_cons_self
      rcases List.mem_cons.mp hx with e | hx
      · exact e
      · rcases List.mem_cons.mp hy with e | hy
        · exact e.symm
        · exact List.le_antisymm (List.not_lt.mp (pa.1 y hy)) (List.not_lt.mp (pb.1 x hx))
    subst e
    rw [up_unique (h.cons_inv) pa.2 pb.2]
theorem up_sorted {l : List (List Nat)} (h : Up l) {l' : List (List Nat)} (hp : l.Perm l') : l = sortS l' := up_unique (hp.trans (sortS_perm l').symm) h (sortS_up l')
theorem allS_some : ∀ {xs : List PV} {ss : List (List Nat)}, allS xs = some ss → xs = ss.map .str
  | [], ss, h => by cases h; rfl
  | .str a :: r, ss, h => by
    unfold allS at h
    cases e : allS r with
    | none => rw [e] at h; cases h
    | some t =>
      rw [e] at h
      cases h
      rw [allS_some e]; rfl
  | .non :: r, ss, h => by cases h
  | .bl _ :: r, ss, h => by cases h
  | .int _ :: r, ss, h => by cases h
  | .tup _ :: r, ss, h => by cases h
  | .lst _ :: r, ss, h => by cases h
  | .ptr _ :: r, ss, h => by cases h
  | .scr _ :: r, ss, h => by cases h
theorem rep_strs : ∀ {ss : List (List Nat)} {vs : List V}, RepL K M H (ss.map .str) vs → vs = (ss.map SS).map V.str ∧ ∀ z ∈ ss, okS z = true
  | [], vs, r => by
    rw [r.nil_inv]
    exact ⟨rfl, by simp⟩
  | s :: ss, vs, r => by
    obtain ⟨w, ws, rfl, r1, r2⟩ := r.cons_inv
    unfold Rep at r1
    obtain ⟨rfl, o⟩ := r1
    obtain ⟨rfl, h⟩ := rep_strs r2
    refine ⟨rfl, fun z hz => ?_⟩
    rcases List.mem_cons.mp hz with rfl | hz
    · exact o
    · exact h z hz
theorem strs_rep : ∀ {ss : List (List Nat)}, (∀ z ∈ ss, okS z = true) → RepL K M H (ss.map .str) ((ss.map SS).map V.str)
  | [], _ => .nil
  | s :: ss, h => .cons (by unfold Rep; exact ⟨rfl, h s List.mem_cons_self⟩) (strs_rep fun z hz => h z (List.mem_cons_of_mem _ hz))
theorem ltCps_iff (a b : List Nat) : ltCps a b = decide (a < b) := PyProof.Rows.ltCps_eq a b
theorem rising_up : ∀ (ss : List (List Nat)) (a : List Nat), risingS (SS a) (ss.map SS) = true → Up (a :: ss)
  | [], a, _ => by simp
  | b :: r, a, h => by
    have h' : (!ltCps b a && risingS (SS b) (r.map SS)) = true := h
    rw [Bool.and_eq_true, ltCps_iff] at h'
    have hb : ¬ b < a := by simpa using h'.1
    have ih := rising_up r b h'.2
    refine List.pairwise_cons.mpr ⟨fun z hz => ?_, ih⟩
    rcases List.mem_cons.mp hz with rfl | hz
    · exact hb
    · exact not_lt_trans hb ((List.pairwise_cons.mp ih).1 z hz)
theorem sorted_up : ∀ (ss : List (List Nat)), sortedS (ss.map SS) = true → Up ss
  | [], _ => .nil
  | a :: r, h => rising_up r a h
theorem SS_back : ∀ (ys : List Str), ys = (ys.map fun y => y.cps.toList).map SS
  | [] => rfl
  | y :: ys => by
    rw [List.map_cons, List.map_cons, ← SS_back ys, SS_cps]
theorem perm_SS {a b : List (List Nat)} (h : (a.map SS).Perm (b.map SS)) : a.Perm b := by
  have := h.map fun y : Str => y.cps.toList
  rw [List.map_map, List.map_map] at this
  have e : (fun y : Str => y.cps.toList) ∘ SS = id := by funext x; rfl
  rw [e, List.map_id, List.map_id] at this
  exact this
/-- what sorted gives of texts -/
theorem sorted_is {ys : List Str} {ss : List (List Nat)} (hp : ys.Perm (ss.map SS)) (hs : sortedS ys = true) : ys = (sortS ss).map SS := by
  rw [SS_back ys] at hp hs ⊢
  rw [up_sorted (sorted_up _ hs) (perm_SS hp)]
def CallP (p : Pm) (X : Cx) (f : Value) (pr : Pr) : Prop :=
  ∀ (pins : List (Addr × Obj)) (s : Shared) (σ : L2.St) (ρ : Env) (M : Ms) (S : Store) (H : Hp) (xs : List PV) (vs : List V) (us : List Value) (Q : VK) (W' : XK), At p X pins σ s ρ M S H → RepL p.K M H xs vs → Vals vs us →
    Post p (Rep p.K) (pri pr xs S) M H Q W' → wpAny (model X.prog X.w) X.A (call f us) (EP X pins σ Q) X.xe s
theorem RepL.one {xs : List PV} {vs : List V} {x : PV} (h : RepL K M H [x] vs) : ∃ v, vs = [v] ∧ Rep K M H x v := by
  obtain ⟨w, ws, rfl, r1, r2⟩ := h.cons_inv
  rw [r2.nil_inv]
  exact ⟨w, rfl, r1⟩
theorem RepL.two {vs : List V} {x y : PV} (h : RepL K M H [x, y] vs) : ∃ v w, vs = [v, w] ∧ Rep K M H x v ∧ Rep K M H y w := by
  obtain ⟨w, ws, rfl, r1, r2⟩ := h.cons_inv
  obtain ⟨v, rfl, r3⟩ := RepL.one (xs := []) r2
  exact ⟨w, v, rfl, r1, r3⟩
theorem cp_len (hK : X.K = p.K) : CallP p X (.builtin "len") .len := by
  intro pins s σ ρ M S H xs vs us Q W' A r rv q
  match xs, r, q with
  | [], r, q => exact (show False from q).elim
  | _ :: _ :: _, r, q => exact (show False from q).elim
  | [x], r, q =>
    obtain ⟨v, rfl, r1⟩ := RepL.one (xs := []) r
    have q' : Post p (Rep p.K) (match res S x with
      | .tup xs => rok (.int xs.length) S
      | .lst xs => rok (.int xs.length) S
      | .str xs => rok (.int xs.length) S
      | .scr xs => rok (.int xs.length) S
      | _ => .bad) M H Q W' := q
    rcases rep_res A.ok r1 with ⟨m, ys, qa, ws, rfl, e, rfl, hq, rl⟩ | ⟨e, np⟩
    · rw [e] at q'
      refine call_len_seq pins s σ H _ us Q A.inv rv ⟨qa, ws, rfl, .inl (.of hq), ?_⟩
      rw [← rl.length]
      exact fin0 A q' rep_int
    · rw [e] at q'
      cases x with
      | tup ys =>
        unfold Rep at r1
        obtain ⟨qa, ws, rfl, h1, h2⟩ := r1
        refine call_len_seq pins s σ H _ us Q A.inv rv ⟨qa, ws, rfl, .inr h1.sq, ?_⟩
        rw [← h2.length]
        exact fin0 A q' rep_int
      | lst ys =>
        unfold Rep at r1
        obtain ⟨qa, ws, rfl, h1, h2⟩ := r1
        refine call_len_seq pins s σ H _ us Q A.inv rv ⟨qa, ws, rfl, .inl h1.sq, ?_⟩
        rw [← h2.length]
        exact fin0 A q' rep_int
      | scr ns =>
        unfold Rep at r1
        obtain ⟨qa, rfl, h1⟩ := r1
        refine call_len_seq pins s σ H _ us Q A.inv rv ⟨qa, ns.map V.int, rfl, .inl (hK ▸ h1.sq), ?_⟩
        rw [List.length_map]
        exact fin0 A q' rep_int
      | str z =>
        unfold Rep at r1
        obtain ⟨rfl, o⟩ := r1
        refine call_len_str pins s σ H _ us Q A.inv rv ⟨SS z, rfl, ?_, ?_⟩
        · rw [SS_len, ← SL_eq]
          unfold okS at o
          rw [Bool.and_eq_true] at o
          exact of_decide_eq_true o.2
        · rw [SS_len]
          exact fin0 A q' rep_int
      | _ => exact (show False from q').elim
theorem cp_int : CallP p X (.type "int") .int := by
  intro pins s σ ρ M S H xs vs us Q W' A r rv q
  rcases xs with _ | ⟨x, _ | ⟨y, l⟩⟩
  · exact (show False from q).elim
  · cases x with
    | int i =>
      obtain ⟨v, rfl, r1⟩ := RepL.one (xs := []) r
      unfold Rep at r1
      subst r1
      exact call_int1 pins s σ H _ us Q A.inv rv (.inl ⟨i, rfl, fin0 A q rep_int⟩)
    | bl k =>
      obtain ⟨v, rfl, r1⟩ := RepL.one (xs := []) r
      unfold Rep at r1
      subst r1
      exact call_int1 pins s σ H _ us Q A.inv rv (.inr ⟨k, rfl, fin0 A (x := .int (if k then 1 else 0)) q rep_int⟩)
    | str z =>
      rcases z with _ | ⟨c, _ | ⟨d, z⟩⟩
      · exact (show False from q).elim
      · obtain ⟨v, rfl, r1⟩ := RepL.one (xs := []) r
        unfold Rep at r1
        obtain ⟨rfl, _⟩ := r1
        have q' : Post p (Rep p.K) (if 48 ≤ c ∧ c ≤ 57 then rok (.int ((c - 48 : Nat) : Int)) S else .bad) M H Q W' := q
        by_cases hc : 48 ≤ c ∧ c ≤ 57
        · rw [if_pos hc] at q'
          have hd : ∀ j : Fin 10, PySem.intText? (SS [48 + j.val]) = some ((j.val : Nat) : Int) := by decide +kernel
          have e := hd ⟨c - 48, by omega⟩
          simp only at e
          rw [show 48 + (c - 48) = c by omega] at e
          exact call_int_str pins s σ H _ us Q A.inv rv ⟨_, _, rfl, e, by show (1 : Nat) ≤ 640; decide, fin0 A (x := .int ((c - 48 : Nat) : Int)) q' rep_int⟩
        · rw [if_neg hc] at q'; exact (show False from q').elim
      · exact (show False from q).elim
    | _ => exact (show False from q).elim
  · cases x <;> first
      | exact (show False from q).elim
      | (rename_i z; rcases z with _ | ⟨c, _ | ⟨d, z⟩⟩ <;> exact (show False from q).elim)
theorem cp_str : CallP p X (.type "str") .str := by
  intro pins s σ ρ M S H xs vs us Q W' A r rv q
  rcases xs with _ | ⟨x, _ | ⟨y, l⟩⟩
  · exact (show False from q).elim
  · cases x with
    | int i =>
      obtain ⟨v, rfl, r1⟩ := RepL.one (xs := []) r
      unfold Rep at r1
      subst r1
      have q' : Post p (Rep p.K) (if 0 ≤ i ∧ i ≤ 9 then rok (.str [48 + i.toNat]) S else if okS (decS i) = true ∧ i.natAbs.log2 < 1920 then rok (.str (decS i)) S else .bad) M H Q W' := q
      by_cases hc : 0 ≤ i ∧ i ≤ 9
      · rw [if_pos hc] at q'
        have hd : ∀ j : Fin 10, (toString ((j.val : Nat) : Int) : Str) = SS [48 + j.val] ∧ ((j.val : Nat) : Int).natAbs.log2 < 1920 ∧ okS [48 + j.val] = true := by decide +kernel
        obtain ⟨e, e2, e3⟩ := hd ⟨i.toNat, by omega⟩
        simp only at e e2 e3
        rw [Int.toNat_of_nonneg hc.1] at e e2
        refine call_str_int pins s σ H _ us Q A.inv rv ⟨i, rfl, e2, ?_⟩
        rw [e]
        exact fin0 A (x := .str [48 + i.toNat]) q' (by unfold Rep; exact ⟨rfl, e3⟩)
      · rw [if_neg hc] at q'
        by_cases hc2 : okS (decS i) = true ∧ i.natAbs.log2 < 1920
        · rw [if_pos hc2] at q'
          refine call_str_int pins s σ H _ us Q A.inv rv ⟨i, rfl, hc2.2, ?_⟩
          have e : (toString i : Str) = SS (decS i) := (SS_cps _).symm
          rw [e]
          exact fin0 A (x := .str (decS i)) q' (by unfold Rep; exact ⟨rfl, hc2.1⟩)
        · rw [if_neg hc2] at q'; exact (show False from q').elim
    | bl b =>
      obtain ⟨v, rfl, r1⟩ := RepL.one (xs := []) r
      unfold Rep at r1
      subst r1
      obtain ⟨u, rfl, ru⟩ := vals1 rv
      cases (show u = Value.bool b from ru)
      have e : ((if b then "True" else "False" : Str)) = SS (if b = true then [84, 114, 117, 101] else [70, 97, 108, 115, 101]) ∧ okS (if b = true then [84, 114, 117, 101] else [70, 97, 108, 115, 101]) = true := by cases b <;> decide +kernel
      exact PySem.P.str_of_bool ⟨.str _, H, A.inv.tok _, ⟨_, rfl⟩, q.done A.ok (by rw [e.1]; unfold Rep; exact ⟨rfl, e.2⟩)⟩
    | _ => exact (show False from q).elim
  · cases x <;> exact (show False from q).elim
theorem cp_abs : CallP p X (.builtin "abs") .abs := by
  intro pins s σ ρ M S H xs vs us Q W' A r rv q
  rcases xs with _ | ⟨x, _ | ⟨y, l⟩⟩
  · exact (show False from q).elim
  · cases x with
    | int i =>
      obtain ⟨v, rfl, r1⟩ := RepL.one (xs := []) r
      unfold Rep at r1
      subst r1
      exact call_abs pins s σ H _ us Q A.inv rv ⟨i, rfl, fin0 A (x := .int (if i < 0 then -i else i)) q rep_int⟩
    | _ => exact (show False from q).elim
  · cases x <;> exact (show False from q).elim
theorem cp_max2 (hc : X.calm = true) : CallP p X (.builtin "max") .max2 := by
  intro pins s σ ρ M S H xs vs us Q W' A r rv q
  rcases xs with _ | ⟨x, _ | ⟨y, _ | ⟨z, l⟩⟩⟩
  · exact (show False from q).elim
  · cases x <;> exact (show False from q).elim
  · cases x <;> cases y <;> first
      | exact (show False from q).elim
      | (rename_i i j
         obtain ⟨v, w, rfl, r1, r2⟩ := RepL.two r
         unfold Rep at r1 r2
         subst r1 r2
         exact call_max2 hc pins s σ H _ us Q A.inv rv ⟨i, j, rfl, fin0 A (x := .int (if j > i then j else i)) q rep_int⟩)
  · cases x <;> cases y <;> exact (show False from q).elim
theorem cp_min2 (hc : X.calm = true) : CallP p X (.builtin "min") .min2 := by
  intro pins s σ ρ M S H xs vs us Q W' A r rv q
  rcases xs with _ | ⟨x, _ | ⟨y, _ | ⟨z, l⟩⟩⟩
  · exact (show False from q).elim
  · cases x <;> exact (show False from q).elim
  · cases x <;> cases y <;> first
      | exact (show False from q).elim
      | (rename_i i j
         obtain ⟨v, w, rfl, r1, r2⟩ := RepL.two r
         unfold Rep at r1 r2
         subst r1 r2
         exact call_min2 hc pins s σ H _ us Q A.inv rv ⟨i, j, rfl, fin0 A (x := .int (if j < i then j else i)) q rep_int⟩)
  · cases x <;> cases y <;> exact (show False from q).elim
/-- -x -/
theorem un_neg' (pins : List (Addr × Obj)) (s : Shared) (σ : L2.St) (ρ : Env) (M : Ms) (S : Store) (H : Hp) (x : PV) (v : V) (u : Value) (Q : VK) (W' : XK) (A : At p X pins σ s ρ M S H) (r : Rep p.K M H x v) (rv : RelV v u)
    (q : Post p (Rep p.K) (pri .neg [x] S) M H Q W') : wpAny (model X.prog X.w) X.A (unaryOp .USub u) (EP X pins σ Q) X.xe s := by
  cases x with
  | int i =>
    unfold Rep at r
    subst r
    exact un_neg pins s σ H _ u Q A.inv rv ⟨i, rfl, fin0 A q rep_int⟩
  | _ => exact (show False from q).elim
def kdN : Kd → String
  | .int => "int" | .bool => "bool" | .str => "str" | .tuple => "tuple" | .list => "list"
theorem kd_of (k : Kd) (t : String) (b : Bool) (h : kitB t (kdN k) = some b) : PySem.W.kitOne K (.type t) (.type (kdN k)) = some b := kit_ty h
theorem kt_non : ∀ k, kitB "NoneType" (kdN k) = some false := by intro k; cases k <;> decide +kernel
theorem kt_bl : ∀ k, kitB "bool" (kdN k) = some (k == .bool || k == .int) := by intro k; cases k <;> decide +kernel
theorem kt_int : ∀ k, kitB "int" (kdN k) = some (k == .int) := by intro k; cases k <;> decide +kernel
theorem kt_str : ∀ k, kitB "str" (kdN k) = some (k == .str) := by intro k; cases k <;> decide +kernel
theorem kt_tup : ∀ k, kitB "tuple" (kdN k) = some (k == .tuple) := by intro k; cases k <;> decide +kernel
theorem kt_lst : ∀ k, kitB "list" (kdN k) = some (k == .list) := by intro k; cases k <;> decide +kernel
theorem rep_ty {x : PV} {v : V} (s : SOk p M S H) (r : Rep p.K M H x v) (hx : ∀ n, x ≠ .exn n) (hd : ∀ n, x = .ptr n → ∃ xs, S[n]? = some (.lst xs)) : ∃ t : String, TyX p.K H v (.type t) ∧ ∀ k, kitB t (kdN k) = some (isK k x) := by
  cases x with
  | non => unfold Rep at r; subst r; exact ⟨_, .base .non, kt_non⟩
  | bl b => unfold Rep at r; subst r; exact ⟨_, .base (.bl b), kt_bl⟩
  | int i => unfold Rep at r; subst r; exact ⟨_, .base (.int i), kt_int⟩
  | str z => unfold Rep at r; obtain ⟨rfl, _⟩ := r; exact ⟨_, .base (.str _), kt_str⟩
  | tup xs =>
    unfold Rep at r
    obtain ⟨a, vs, rfl, ⟨⟨o, e, _⟩, _⟩, _⟩ := r
    exact ⟨"tuple", .fTuple e, kt_tup⟩
  | lst xs =>
    unfold Rep at r
    obtain ⟨a, vs, rfl, h, _⟩ := r
    exact ⟨"list", .base (.lst h.1), kt_lst⟩
  | ptr n =>
    unfold Rep at r
    obtain ⟨a, rfl, hm⟩ := r
    have hl : n < S.length := by rw [← s.len]; exact (List.getElem?_eq_some_iff.mp hm).1
    obtain ⟨xs, e⟩ := hd n rfl
    obtain ⟨vs, h1, _⟩ := s.obj n a _ hm e
    exact ⟨"list", .base (.lst h1), kt_lst⟩
  | scr ns =>
    unfold Rep at r
    obtain ⟨a, rfl, h⟩ := r
    have hk : ∀ k, kitB "list" (kdN k) = some (isK k (.scr ns)) := kt_lst
    rcases h with ⟨h | ⟨o, h⟩, _⟩ | ⟨o, its, m, h, c, _⟩
    · exact ⟨"list", .base (.lst h), hk⟩
    · exact ⟨"list", .base (.frz h), hk⟩
    · exact ⟨"list", .kList h c, hk⟩
  | exn n => exact absurd rfl (hx n)
theorem cp_isi (hK : X.K = p.K) (k : Kd) (pins : List (Addr × Obj)) (s : Shared) (σ : L2.St) (ρ : Env) (M : Ms) (S : Store) (H : Hp) (x : PV) (v : V) (u : Value) (Q : VK) (W' : XK) (A : At p X pins σ s ρ M S H) (r : Rep p.K M H x v) (rv : RelV v u)
    (q : Post p (Rep p.K) (pri (.isi k) [x] S) M H Q W') : wpAny (model X.prog X.w) X.A (call (.builtin "isinstance") [u, .type (kdN k)]) (EP X pins σ Q) X.xe s := by
  have hx : ∀ n, x ≠ .exn n := fun n e => by subst e; exact (show False from q).elim
  have hd : ∀ n, x = .ptr n → ∃ xs, S[n]? = some (.lst xs) := fun n e => by
    subst e
    have q : Post p (Rep p.K) (match S[n]? with | some (.lst _) => rok (.bl (isK k (.ptr n))) S | _ => .bad) M H Q W' := q
    split at q
    · rename_i xs e; exact ⟨xs, e⟩
    · exact (show False from q).elim
  have q : Post p (Rep p.K) (rok (.bl (isK k x)) S) M H Q W' := by
    cases x with
    | ptr n =>
      obtain ⟨xs, e⟩ := hd n rfl
      have q : Post p (Rep p.K) (match S[n]? with | some (.lst _) => rok (.bl (isK k (.ptr n))) S | _ => .bad) M H Q W' := q
      rw [e] at q
      exact q
    | exn n => exact absurd rfl (hx n)
    | _ => exact q
  obtain ⟨t, ty, hk⟩ := rep_ty A.ok r hx hd
  exact call_isi pins s σ H [v, .ty (kdN k)] _ Q A.inv (.cons rv (.cons rfl .nil)) ⟨v, .ty (kdN k), .type t, .type (kdN k), _, rfl, .ty _, hK ▸ ty, kd_of k t _ (hk k), fin0 A (x := .bl (isK k x)) q rep_bl⟩
end G
set_option maxHeartbeats 1000000
namespace G
open PySem PySem.Spec PyProof.Rows L2
variable {p : Pm} {X : Cx} {W : WX} {M : Ms} {H : Hp} {S : Store} {K : PySem.W.Frag}
theorem rep_chars : ∀ (z : List Nat), okS z = true → RepL K M H (z.map fun c => PV.str [c]) (z.map fun c => V.str (SS [c]))
  | [], _ => .nil
  | c :: z, h => by
    have h1 : okS [c] = true := okS_one h List.mem_cons_self
    have h2 : okS z = true := by
      unfold okS at h ⊢
      rw [Bool.and_eq_true] at h ⊢
      refine ⟨?_, ?_⟩
      · have := h.1
        rw [List.all_cons, Bool.and_eq_true] at this
        exact this.2
      · have := of_decide_eq_true h.2
        rw [List.length_cons] at this
        exact decide_eq_true (by omega)
    exact .cons (by unfold Rep; exact ⟨rfl, h1⟩) (rep_chars z h2)
theorem vals_chars : ∀ (z : List Nat) (l : List Value), l.length = z.length → (∀ (j : Nat) (v : Value), l[j]? = some v → ∃ c u, z[j]? = some c ∧ v = Value.str ⟨#[c]⟩ u) → Vals (z.map fun c => V.str (SS [c])) l
  | [], [], _, _ => .nil
  | [], _ :: _, h, _ => by simp at h
  | _ :: _, [], h, _ => by simp at h
  | c :: z, v :: l, h, k => by
    obtain ⟨c', u, e, ev⟩ := k 0 v rfl
    have : c = c' := by simpa using e
    subst this
    exact .cons ⟨u, ev⟩ (vals_chars z l (by simpa using h) fun j w e => by simpa using k (j + 1) w (by simpa using e))
def listOf (S : Store) (v : PV) : Option (List PV) := match res S v with
  | .tup xs => some xs
  | .lst xs => some xs
  | .str xs => if xs.length ≤ 8 then some (xs.map fun c => PV.str [c]) else none
  | _ => none
theorem cp_listG (hK : X.K = p.K) (hc : X.calm = true) {pins : List (Addr × Obj)} {s : Shared} {σ : L2.St} {ρ : Env} {x : PV} {v : V} {u : Value} {Q : VK} {xs : List PV} (A : At p X pins σ s ρ M S H) (r : Rep p.K M H x v) (rv : RelV v u) (e : listOf S x = some xs)
    (hq : ∀ (l : Addr) (vs : List V), H l = none → RepL p.K M H xs vs → Q (.ref l) (upd H l (.lst vs))) : wpAny (model X.prog X.w) X.A (call (.type "list") [u]) (EP X pins σ Q) X.xe s := by
  unfold listOf at e
  rcases rep_res A.ok r with ⟨m, ys, qa, ws, rfl, e', rfl, hh, rl⟩ | ⟨e', np⟩
  · rw [e'] at e
    cases e
    exact call_list_of pins s σ H [.ref qa] _ Q A.inv (.cons rv .nil) ⟨qa, ws, rfl, .inl (.of hh), fun l hl => hq l ws hl rl⟩
  · rw [e'] at e
    cases x with
    | tup ys =>
      cases e
      unfold Rep at r
      obtain ⟨qa, ws, rfl, h1, h2⟩ := r
      exact call_list_of pins s σ H [.ref qa] _ Q A.inv (.cons rv .nil) ⟨qa, ws, rfl, .inr h1.sq, fun l hl => hq l ws hl h2⟩
    | lst ys =>
      cases e
      unfold Rep at r
      obtain ⟨qa, ws, rfl, h1, h2⟩ := r
      exact call_list_of pins s σ H [.ref qa] _ Q A.inv (.cons rv .nil) ⟨qa, ws, rfl, .inl h1.sq, fun l hl => hq l ws hl h2⟩
    | str z =>
      simp only at e
      by_cases h8 : z.length ≤ 8
      · rw [if_pos h8] at e
        cases e
        unfold Rep at r
        obtain ⟨rfl, o⟩ := r
        obtain ⟨t, rfl⟩ := rv
        have hz : (SS z).cps.size = z.length := by show z.toArray.size = _; simp
        have hf : H s.heap.objs.size = none := A.inv.hok.fresh (Nat.le_refl _)
        refine call_list_str (A.inv.ok.hd hc) (SS z) t (fun h' tk acc' c' hk hS' hacc => ?_) (by rw [hz]; exact thousand (by omega))
        have hv : Vals (z.map fun c => V.str (SS [c])) acc'.toList := by
          refine vals_chars z _ (by rw [Array.length_toList, hacc.1, hz]) fun j v e => ?_
          obtain ⟨c, u, e1, e2⟩ := hacc.2 j v (by simpa using e)
          exact ⟨c, u, by simpa using e1, e2⟩
        refine ⟨.ref s.heap.objs.size, _, A.inv.laid (t' := tk) (o := .lst (z.map fun c => V.str (SS [c]))) hk (Nat.le_refl _) ⟨by rw [List.length_map]; exact thousand (by omega), acc'.toList, c', hv, by simpa using hS'⟩, rfl, hq _ _ hf (rep_chars z o)⟩
      · rw [if_neg h8] at e; cases e
    | _ => cases e
theorem pri_list {x : PV} {M : Ms} {H : Hp} {Q : VK} {W' : XK} (q : Post p (Rep p.K) (pri .list [x] S) M H Q W') : ∃ xs, listOf S x = some xs ∧ Post p (Rep p.K) (.ok (.lst xs) S) M H Q W' := by
  have q' : Post p (Rep p.K) (match res S x with
      | .tup xs => rok (.lst xs) S
      | .lst xs => rok (.lst xs) S
      | .str xs => if xs.length ≤ 8 then rok (.lst (xs.map fun c => .str [c])) S else .bad
      | _ => .bad) M H Q W' := q
  unfold listOf
  cases h : res S x with
  | tup xs => rw [h] at q'; exact ⟨_, rfl, q'⟩
  | lst xs => rw [h] at q'; exact ⟨_, rfl, q'⟩
  | str xs =>
    rw [h] at q'
    simp only at q' ⊢
    by_cases h8 : xs.length ≤ 8
    · rw [if_pos h8] at q' ⊢; exact ⟨_, rfl, q'⟩
    · rw [if_neg h8] at q'; exact q'.elim
  | _ => rw [h] at q'; exact (show False from q').elim
theorem pri_list_one {xs : List PV} {M : Ms} {H : Hp} {Q : VK} {W' : XK} (q : Post p (Rep p.K) (pri .list xs S) M H Q W') : ∃ x, xs = [x] := by
  rcases xs with _ | ⟨x, _ | ⟨y, l⟩⟩
  · exact (show False from q).elim
  · exact ⟨x, rfl⟩
  · exact (show False from q).elim
theorem cp_list (hK : X.K = p.K) (hc : X.calm = true) : CallP p X (.type "list") .list := by
  intro pins s σ ρ M S H xs vs us Q W' A r rv q
  obtain ⟨x, rfl⟩ := pri_list_one q
  obtain ⟨v, rfl, r1⟩ := RepL.one (xs := []) r
  obtain ⟨u, rfl, ru⟩ := vals1 rv
  obtain ⟨ys, e, q'⟩ := pri_list q
  exact cp_listG hK hc A r1 ru e fun l ws hl rl => fin_new q' A.ok hl (new_lst (s := A.ok) hl rl)
theorem cp_tuple (hK : X.K = p.K) : CallP p X (.type "tuple") .tuple := by
  intro pins s σ ρ M S H xs vs us Q W' A r rv q
  rcases xs with _ | ⟨x, _ | ⟨y, l⟩⟩
  · exact (show False from q).elim
  · obtain ⟨v, rfl, r1⟩ := RepL.one (xs := []) r
    obtain ⟨u, rfl, ru⟩ := vals1 rv
    have q' : Post p (Rep p.K) (match res S x with
      | .tup xs => rok (.tup xs) S
      | .lst xs => rok (.tup xs) S
      | _ => .bad) M H Q W' := q
    have fromL : ∀ (ys : List PV) (ws : List V) (qa : Addr), v = .ref qa → SqL X.K H qa ws → RepL p.K M H ys ws → Post p (Rep p.K) (.ok (.tup ys) S) M H Q W' → wpAny (model X.prog X.w) X.A (call (.type "tuple") [u]) (EP X pins σ Q) X.xe s := by
      intro ys ws qa e hq rl q2
      subst e
      cases ru
      obtain ⟨its, r', pl, hz⟩ := A.inv.list hq
      have hlen := r'.length
      refine call_tuple_list pl.isList (fun h' kp => ?_) (by simp only [List.size_toArray] <;> omega)
      have A1 : At p X pins σ { s with heap := h' } ρ M S H := ⟨A.inv.kept (t' := s.toks) kp, A.env, A.ok⟩
      exact fin_tup (t' := s.toks) A1 q2 rl r' hz
    rcases rep_res A.ok r1 with ⟨m, ys, qa, ws, rfl, e, rfl, hq, rl⟩ | ⟨e, np⟩
    · rw [e] at q'
      exact fromL ys ws qa rfl (.of hq) rl q'
    · rw [e] at q'
      cases x with
      | tup ys =>
        have r1' := r1
        unfold Rep at r1
        obtain ⟨qa, ws, rfl, h1, h2⟩ := r1
        cases ru
        obtain ⟨its, _, p1, _⟩ := A.inv.tuple (h1.sq (K := X.K))
        exact call_tuple_same (items := its.toArray) p1 ⟨.ref qa, H, A.inv, rfl, fin0 A q' r1'⟩
      | lst ys =>
        unfold Rep at r1
        obtain ⟨qa, ws, rfl, h1, h2⟩ := r1
        exact fromL ys ws qa rfl h1.sq h2 q'
      | _ => exact (show False from q').elim
  · exact (show False from q).elim
theorem sorted_seq {prog : Program} {w : World} {A : Around} {E : Value → Shared → Prop} {s : Shared} {a : Addr} {T : String} {o : Obj} {vs : List Value} {n : Nat} {ss : List Str} {Q : Value → Shared → Prop} (hT : T = "list" ∨ T = "tuple")
    (ho : s.heap.get? a = some o) (hc : o.cls = .type T) (hd : o.data = .seq vs.toArray n) (hS : StrsAre vs ss) (hL : vs.length ≤ sizeLine)
    (h : ∀ (h1 h' : Heap) (out : List Value) (ep : Nat) (ss' : List Str), (∀ b o, s.heap.get? b = some o → h1.get? b = some o) → (∀ b o, h1.get? b = some o → h'.get? b = some o) → h'.get? h1.objs.size = some (seqObj "list" out.toArray ep) → StrsAre out ss' → ss'.Perm ss → sortedS ss' = true → Q (.ref h1.objs.size) { s with heap := h' }) :
    wpAny (model prog w) A (call (.builtin "sorted") [.ref a]) Q E s := by
  refine Calls.call_function_entry kind_sorted plain_sorted entry_sorted (args_sorted1 _) ?_
  unfold Builtin.«sorted»
  refine wpAny_bind (m := checkCount "sorted" 1 1 _) (wpAny_pure ?_)
  refine wpAny_bind (wpAny_collect_seq a hT ho hc hd (fun h1 k1 => ?_) (by simpa using hL))
  rw [show vs.toArray.toList = vs by simp]
  refine wpAny_bind (wpAny_newList ?_)
  have hoL : (h1.push (seqObj "list" vs.toArray 0)).get? h1.objs.size = some (seqObj "list" vs.toArray 0) := Heap.get?_push_size _ rfl
  show wpAny _ _ _ _ _ { s with heap := h1.push (seqObj "list" vs.toArray 0) }
  refine wpAny_bind (wpAny_holding (wpAny_call_entry slot_list_sort ⟨_, hoL, rfl⟩ entry_list_sort (list_sort_treeKAny strKind_oneLt hoL hS.keysOf (fun v₁ v₂ rest e => keyKind_strs (by rw [← e]; exact hS)) hL fun st' a1 a2 => ⟨_, rfl, ?_⟩) (args_list_sort _)))
  refine wpAny_pure ⟨_, rfl, ?_⟩
  obtain ⟨ss', g1, g2, g3⟩ := sorted_out_str hS a1 a2
  obtain ⟨ep, he⟩ := sortedHeap_at (out := (arrOf st').map (·.2)) hoL
  refine h h1 _ ((arrOf st').map (·.2)).toList ep ss' k1 (fun b o hb => ?_) (by rw [Array.toArray_toList]; exact he) g1 g2 g3
  have hlt := Heap.lt_size hb
  rw [sortedHeap_old (Nat.ne_of_lt hlt) (by rw [size_push']; exact Nat.lt_succ_of_lt hlt)]
  exact Heap.get?_push_of_some _ hb
theorem strs_vals : ∀ {ss : List Str} {us : List Value}, StrsAre us ss → Vals (ss.map V.str) us
  | _, _, .nil => .nil
  | _, _, .cons x t h => .cons ⟨t, rfl⟩ (strs_vals h)
theorem pins_eq {r t : PV → PV → Bool} (x : PV) : ∀ l : List PV, True := fun _ => trivial
def ins2 (le : PV → PV → Bool) (x : PV) : List PV → List PV
  | [] => [x]
  | y :: r => if le x y then x :: y :: r else y :: ins2 le x r
def sort2 (le : PV → PV → Bool) : List PV → List PV
  | [] => []
  | x :: r => ins2 le x (sort2 le r)
theorem ins2_perm (le : PV → PV → Bool) (x : PV) : ∀ l : List PV, (ins2 le x l).Perm (x :: l)
  | [] => .refl _
  | y :: r => by
    unfold ins2
    split
    · exact .refl _
    · exact ((ins2_perm le x r).cons y).trans (List.Perm.swap x y r)
theorem sort2_perm (le : PV → PV → Bool) : ∀ l : List PV, (sort2 le l).Perm l
  | [] => .refl _
  | x :: r => (ins2_perm le x _).trans ((sort2_perm le r).cons x)
theorem ins2_sorted {le : PV → PV → Bool} (h : PySem.W.TotalLe le) (x : PV) : ∀ l : List PV, l.Pairwise (fun a b => le a b = true) → (ins2 le x l).Pairwise (fun a b => le a b = true)
  | [], _ => List.pairwise_singleton _ _
  | y :: r, hl => by
    have h1 := List.pairwise_cons.mp hl
    unfold ins2
    split
    · rename_i hxy
      refine .cons (fun z hz => ?_) hl
      rcases List.mem_cons.mp hz with rfl | hz
      · exact hxy
      · exact h.trans _ _ _ hxy (h1.1 z hz)
    · rename_i hxy
      refine .cons (fun z hz => ?_) (ins2_sorted h x r h1.2)
      rcases List.mem_cons.mp ((ins2_perm le x r).mem_iff.mp hz) with rfl | hz
      · rcases h.total y z with q | q
        · exact q
        · exact absurd q hxy
      · exact h1.1 z hz
theorem sort2_sorted {le : PV → PV → Bool} (h : PySem.W.TotalLe le) : ∀ l : List PV, (sort2 le l).Pairwise (fun a b => le a b = true)
  | [] => .nil
  | x :: r => ins2_sorted h x _ (sort2_sorted h r)
theorem ins2_stable {le : PV → PV → Bool} (h : PySem.W.TotalLe le) (c x : PV) : ∀ l : List PV, (ins2 le x l).filter (PySem.W.sameRank le c) = (x :: l).filter (PySem.W.sameRank le c)
  | [] => rfl
  | y :: r => by
    unfold ins2
    split
    · rfl
    · rename_i hxy
      have ih := ins2_stable h c x r
      rw [List.filter_cons, ih, List.filter_cons, List.filter_cons, List.filter_cons]
      cases hx : PySem.W.sameRank le c x with
      | false => simp only [Bool.false_eq_true, if_false]
      | true =>
        cases hy : PySem.W.sameRank le c y with
        | false => simp only [Bool.false_eq_true, if_false, if_true]
        | true =>
          unfold PySem.W.sameRank at hx hy
          rw [Bool.and_eq_true] at hx hy
          exact absurd (h.trans _ _ _ hx.2 hy.1) hxy
theorem sort2_stable {le : PV → PV → Bool} (h : PySem.W.TotalLe le) (c : PV) : ∀ l : List PV, (sort2 le l).filter (PySem.W.sameRank le c) = l.filter (PySem.W.sameRank le c)
  | [] => rfl
  | x :: r => by
    unfold sort2
    rw [ins2_stable h c x, List.filter_cons, List.filter_cons, sort2_stable h c r]
theorem pins_ins2 {le : PV → PV → Bool} (x : PV) : ∀ l : List PV, (∀ y ∈ l, le x y = !pvlt y x) → pins x l = ins2 le x l
  | [], _ => rfl
  | y :: r, h => by
    unfold pins ins2
    rw [h y (List.mem_cons_self)]
    cases pvlt y x with
    | true => simp only [if_true, Bool.not_true, Bool.false_eq_true, if_false]; rw [pins_ins2 x r fun z hz => h z (List.mem_cons_of_mem _ hz)]
    | false => simp only [Bool.false_eq_true, if_false, Bool.not_false, if_true]
theorem psort_sort2 {le : PV → PV → Bool} : ∀ l : List PV, (∀ x ∈ l, ∀ y ∈ l, le x y = !pvlt y x) → psort l = sort2 le l
  | [], _ => rfl
  | x :: r, h => by
    unfold psort sort2
    rw [psort_sort2 r fun a ha b hb => h a (List.mem_cons_of_mem _ ha) b (List.mem_cons_of_mem _ hb)]
    exact pins_ins2 x _ fun y hy => h x (List.mem_cons_self) y (List.mem_cons_of_mem _ ((sort2_perm le r).mem_iff.mp hy))
theorem psort_merge (xs : List PV) (h : ∀ x ∈ xs, ∀ y ∈ xs, PySem.W.dataLe false toD x y = !pvlt y x) : psort xs = xs.mergeSort (PySem.W.dataLe false toD) := by
  have T : PySem.W.TotalLe (PySem.W.dataLe false toD) := PySem.W.sortLe_total _ _ _
  rw [psort_sort2 (le := PySem.W.dataLe false toD) xs h]
  exact PySem.W.sort_unique T (sort2_sorted T xs) (sort2_stable T · xs)
theorem each_rep {β : Type} {R : Value → PV → Prop} : ∀ {xs : List PV} {vs : List V} {us : List Value}, RepL p.K M H xs vs → Vals vs us → (∀ x v u, x ∈ xs → Rep p.K M H x v → RelV v u → R u x) → PySem.W.EachIs R us xs
  | [], vs, us, r, rv, _ => by
    rw [r.nil_inv] at rv
    cases rv
    exact .nil
  | x :: xs, vs, us, r, rv, h => by
    obtain ⟨w, ws, rfl, r1, r2⟩ := r.cons_inv
    cases rv with
    | cons q1 q2 => exact .cons (h x _ _ (List.mem_cons_self) r1 q1) (each_rep (β := β) r2 q2 fun x v u hx => h x v u (List.mem_cons_of_mem _ hx))
theorem each_ints {h : Heap} : ∀ {is : List Int} {us : List Value}, PySem.W.EachIs (fun v b => ∃ as, PySem.Reads h v (toD b) as) us (is.map .int) → PySem.W.EachIs (fun v b => ∃ as, PySem.Reads h v (PySem.PyData.int b) as) us is
  | [], _, .nil => .nil
  | _ :: _, _, .cons a r => .cons a (each_ints r)
theorem each_back : ∀ {xs : List PV} {us : List Value}, PySem.W.EachIs (fun u x => ∃ v, Rep p.K M H x v ∧ RelV v u) us xs → ∃ vs, RepL p.K M H xs vs ∧ Vals vs us
  | _, _, .nil => ⟨[], .nil, .nil⟩
  | _, _, .cons ⟨v, r1, r2⟩ t => by
    obtain ⟨vs, h1, h2⟩ := each_back t
    exact ⟨v :: vs, .cons r1 h1, .cons r2 h2⟩
theorem sort_d {n : Nat} (hK : X.K = p.K) (hr : Room n X.A) {pins : List (Addr × Obj)} {s : Shared} {σ : L2.St} {ρ : Env} {qa : Addr} {ys : List PV} {ws : List V} {u : Value} {Q : VK} {W' : XK} (A : At p X pins σ s ρ M S H) (hq : SqL X.K H qa ws) (rl : RepL p.K M H ys ws) (ru : RelV (.ref qa) u)
    (q : Post p (Rep p.K) (if sortOk ys then rok (.lst (psort ys)) S else .bad) M H Q W') : wpAny (model X.prog X.w) X.A (call (.builtin "sorted") [u]) (EP X pins σ Q) X.xe s := by
  by_cases hs : sortOk ys = true
  case neg => rw [if_neg hs] at q; exact (show False from q).elim
  rw [if_pos hs] at q
  unfold sortOk at hs
  rcases (Bool.or_eq_true _ _).mp hs with hs | hs
  · have h1 : ys.length ≤ 1 := of_decide_eq_true hs
    have e1 : psort ys = ys := by
      rcases ys with _ | ⟨y, _ | ⟨z, r⟩⟩
      · rfl
      · rfl
      · simp at h1
    rw [e1] at q
    cases ru
    obtain ⟨its, rv, ht, hz⟩ := A.inv.list hq
    have hl1 : its.length ≤ 1 := by rw [← rv.length, ← rl.length]; exact h1
    refine Srt.sorted_any ht.isList (by rw [← rv.length]; exact hz) (fun h2 => absurd h2 (by omega)) fun out hp => ?_
    have e2 : out = its := by
      rcases its with _ | ⟨y, _ | ⟨z, r⟩⟩
      · exact hp.eq_nil
      · exact hp.eq_singleton
      · simp at hl1
    subst e2
    obtain ⟨ep, he⟩ := PyProof.Rows.sortedAll_at s.heap out (List.toArray out)
    have hf : H (s.heap.objs.size + 1) = none := A.inv.hok.fresh (Nat.le_succ _)
    exact ⟨.ref (s.heap.objs.size + 1), _, A.inv.laid (t' := s.toks) (o := .lst ws) (fun b o hb => PyProof.Rows.sortedAll_old hb) (Nat.le_succ _) ⟨hz, out, ep, rv, he⟩, rfl, fin_new q A.ok hf (new_lst (s := A.ok) hf rl)⟩
  simp only [Bool.and_eq_true, List.all_eq_true, decide_eq_true_eq] at hs
  obtain ⟨⟨⟨h1, h2⟩, h3⟩, h4⟩ := hs
  have hd : ∀ x ∈ ys, ∃ d, dep x = some d ∧ d ≤ 20 := fun x hx => by
    have := h2 x hx
    cases e : dep x with
    | none => rw [e] at this; cases this
    | some d => rw [e] at this; exact ⟨d, rfl, of_decide_eq_true this⟩
  have hne : ∀ x ∈ ys, x ≠ .non := fun x hx e => by
    subst e
    rcases (Bool.or_eq_true _ _).mp h3 with h | h
    · have := List.all_eq_true.mp h _ hx; cases this
    · have := List.all_eq_true.mp h _ hx; cases this
  have hle : ∀ x ∈ ys, ∀ y ∈ ys, PySem.W.dataLe false toD x y = !pvlt y x := fun x hx y hy => by
    obtain ⟨i, e1, _⟩ := hd x hx
    obtain ⟨j, e2, _⟩ := hd y hy
    rw [PySem.W.dataLe_eq]
    show (!PySem.W.dataLt (toD y) (toD x)) = _
    rw [lt_toD y x j i e2 e1 (h1 y hy x hx) (hne y hy)]
  cases ru
  obtain ⟨its, rv, ht, hz⟩ := A.inv.list hq
  have eR : PySem.W.EachIs (fun u x => ∃ v, Rep p.K M H x v ∧ RelV v u) its ys := each_rep (β := Unit) rl rv fun x v u _ a b => ⟨v, a, b⟩
  have er : PySem.W.EachIs (fun v b => ∃ as, PySem.Reads s.heap v (toD b) as) its ys := each_rep (β := Unit) rl rv fun x v u hx a b => by
    obtain ⟨d, e, _⟩ := hd x hx
    have := rep_dp x d v e a
    rw [← hK] at this
    exact Dp.reads A.inv _ v u this b
  have hal : PySem.W.AllAlike (ys.map toD) := fun d hd1 d' hd2 => by
    obtain ⟨x, hx, rfl⟩ := List.mem_map.mp hd1
    obtain ⟨y, hy, rfl⟩ := List.mem_map.mp hd2
    exact alike_toD x y (h1 x hx y hy)
  have hso : PySem.W.Sortable (ys.map toD) := by
    rcases (Bool.or_eq_true _ _).mp h3 with h | h
    · refine .inl fun d hd => ?_
      obtain ⟨x, hx, rfl⟩ := List.mem_map.mp hd
      have := List.all_eq_true.mp h x hx
      unfold tupNe at this
      split at this
      · exact ⟨_, _, rfl⟩
      · cases this
    · refine .inr fun d hd2 => ?_
      obtain ⟨x, hx, rfl⟩ := List.mem_map.mp hd2
      have := List.all_eq_true.mp h x hx
      obtain ⟨i, e, _⟩ := hd x hx
      cases x with
      | non => cases this
      | tup _ => cases this
      | ptr _ => cases e
      | scr _ => cases e
      | exn _ => cases e
      | _ => exact ⟨(fun z => by cases z), (fun xs z => by cases z)⟩
  refine PySem.W.sorted_data ht.isList eR er hal hso (by rw [rl.length]; exact hz) (fun b hb => ?_) fun out hlen ho => ?_
  · obtain ⟨d, e, hd'⟩ := hd b hb
    rw [depth_toD b d e]
    have := hr.un
    omega
  · rw [← psort_merge ys hle] at ho
    obtain ⟨vs', r1, r2⟩ := each_back ho
    obtain ⟨ep, he⟩ := PyProof.Rows.sortedAll_at s.heap its (List.toArray out)
    have hf : H (s.heap.objs.size + 1) = none := A.inv.hok.fresh (Nat.le_succ _)
    have hvl : vs'.length ≤ sizeLine := by
      rw [r2.length, hlen, rl.length]; exact hz
    exact ⟨.ref (s.heap.objs.size + 1), _, A.inv.laid (t' := s.toks) (o := .lst vs') (fun b o hb => PyProof.Rows.sortedAll_old hb) (Nat.le_succ _) ⟨hvl, out, ep, r2, he⟩, rfl, fin_new q A.ok hf (new_lst (s := A.ok) hf r1)⟩
theorem allI_some : ∀ {ys : List PV} {is : List Int}, allI ys = some is → ys = is.map .int
  | [], is, h => by cases h; rfl
  | y :: ys, is, h => by
    cases y with
    | int i =>
      have h' : (allI ys).map (i :: ·) = some is := h
      cases e : allI ys with
      | none => rw [e] at h'; cases h'
      | some js => rw [e] at h'; cases h'; rw [allI_some e]; rfl
    | _ => cases h
theorem rep_intsI : ∀ {is : List Int} {ws : List V}, RepL p.K M H (is.map .int) ws → ws = is.map V.int
  | [], ws, r => r.nil_inv
  | i :: is, ws, r => by
    obtain ⟨w, vs, rfl, r1, r2⟩ := RepL.cons_inv (x := .int i) (xs := is.map .int) r
    unfold Rep at r1
    rw [r1, rep_intsI r2, List.map_cons]
theorem insL_perm (x : Int) : ∀ l : List Int, (insL x l).Perm (x :: l)
  | [] => .refl _
  | y :: r => by
    unfold insL
    split
    · exact ((insL_perm x r).cons y).trans (List.Perm.swap x y r)
    · exact .refl _
theorem sortL_perm : ∀ l : List Int, (sortL l).Perm l
  | [] => .refl _
  | x :: r => (insL_perm x _).trans ((sortL_perm r).cons x)
theorem insL_up (x : Int) : ∀ l : List Int, l.Pairwise (· ≤ ·) → (insL x l).Pairwise (· ≤ ·)
  | [], _ => List.pairwise_singleton _ _
  | y :: r, hl => by
    have h1 := List.pairwise_cons.mp hl
    unfold insL
    split
    · rename_i hxy
      refine .cons (fun z hz => ?_) (insL_up x r h1.2)
      rcases List.mem_cons.mp ((insL_perm x r).mem_iff.mp hz) with rfl | hz
      · omega
      · exact h1.1 z hz
    · rename_i hxy
      refine .cons (fun z hz => ?_) hl
      rcases List.mem_cons.mp hz with rfl | hz
      · omega
      · have := h1.1 z hz; omega
theorem sortL_up : ∀ l : List Int, (sortL l).Pairwise (· ≤ ·)
  | [] => .nil
  | x :: r => insL_up x _ (sortL_up r)
theorem sortL_is {a b : List Int} (hp : a.Perm b) (hs : a.Pairwise (· ≤ ·)) : a = sortL b :=
  List.Perm.eq_of_pairwise (le := (· ≤ ·)) (fun _ _ _ _ h1 h2 => by omega) hs (sortL_up b) (hp.trans (sortL_perm b).symm)
theorem sorted_seqI {prog : Program} {w : World} {A : Around} {E : Value → Shared → Prop} {s : Shared} {a : Addr} {T : String} {o : Obj} {vs : List Value} {n : Nat} {is : List Int} {Q : Value → Shared → Prop} (hT : T = "list" ∨ T = "tuple")
    (ho : s.heap.get? a = some o) (hc : o.cls = .type T) (hd : o.data = .seq vs.toArray n) (hI : IntsAre vs is) (hL : vs.length ≤ sizeLine)
    (h : ∀ (h1 h' : Heap) (out : List Value) (ep : Nat) (is' : List Int), (∀ b o, s.heap.get? b = some o → h1.get? b = some o) → (∀ b o, h1.get? b = some o → h'.get? b = some o) → h'.get? h1.objs.size = some (seqObj "list" out.toArray ep) → IntsAre out is' → is'.Perm is → is'.Pairwise (· ≤ ·) → Q (.ref h1.objs.size) { s with heap := h' }) :
    wpAny (model prog w) A (call (.builtin "sorted") [.ref a]) Q E s := by
  refine Calls.call_function_entry kind_sorted plain_sorted entry_sorted (args_sorted1 _) ?_
  unfold Builtin.«sorted»
  refine wpAny_bind (m := checkCount "sorted" 1 1 _) (wpAny_pure ?_)
  refine wpAny_bind (wpAny_collect_seq a hT ho hc hd (fun h1 k1 => ?_) (by simpa using hL))
  rw [show vs.toArray.toList = vs by simp]
  refine wpAny_bind (wpAny_newList ?_)
  have hoL : (h1.push (seqObj "list" vs.toArray 0)).get? h1.objs.size = some (seqObj "list" vs.toArray 0) := Heap.get?_push_size _ rfl
  show wpAny _ _ _ _ _ { s with heap := h1.push (seqObj "list" vs.toArray 0) }
  refine wpAny_bind (wpAny_holding (wpAny_call_entry slot_list_sort ⟨_, hoL, rfl⟩ entry_list_sort (list_sort_treeAny hoL hI hL fun out is' a1 a2 a3 => ⟨_, rfl, ?_⟩) (args_list_sort _)))
  refine wpAny_pure ⟨_, rfl, ?_⟩
  obtain ⟨ep, he⟩ := sortedHeap_at (out := out) hoL
  refine h h1 _ out.toList ep is' k1 (fun b o hb => ?_) (by rw [Array.toArray_toList]; exact he) a1 a2 a3
  have hlt := Heap.lt_size hb
  rw [sortedHeap_old (Nat.ne_of_lt hlt) (by rw [size_push']; exact Nat.lt_succ_of_lt hlt)]
  exact Heap.get?_push_of_some _ hb
theorem ints_repI {K : PySem.W.Frag} {M : Ms} {H : Hp} : ∀ is : List Int, RepL K M H (is.map .int) (is.map V.int)
  | [] => .nil
  | i :: is => .cons rep_int (ints_repI is)
theorem cp_sorted {n : Nat} (hK : X.K = p.K) (hr : Room n X.A) : CallP p X (.builtin "sorted") .sorted := by
  intro pins s σ ρ M S H xs vs us Q W' A r rv q
  rcases xs with _ | ⟨x, _ | ⟨y, l⟩⟩
  · exact (show False from q).elim
  · obtain ⟨v, rfl, r1⟩ := RepL.one (xs := []) r
    obtain ⟨u, rfl, ru⟩ := vals1 rv
    have q' : Post p (Rep p.K) (match res S x with
      | .tup xs => match allS xs with
        | some ss => if ss.length < 64 then rok (.lst ((sortS ss).map .str)) S else .bad
        | none => match allI xs with
          | some is => if is.length ≤ 1000 then rok (.lst ((sortL is).map .int)) S else .bad
          | none => .bad
      | .lst xs => match allS xs with
        | some ss => if ss.length < 64 then rok (.lst ((sortS ss).map .str)) S else .bad
        | none => if sortOk xs then rok (.lst (psort xs)) S else .bad
      | _ => .bad) M H Q W' := q
    have fin : ∀ (T : String) (ys : List PV) (ws : List V) (qa : Addr) (its : List Value) (o : Obj) (n : Nat), (T = "list" ∨ T = "tuple") → u = .ref qa → s.heap.get? qa = some o → o.cls = .type T → o.data = .seq its.toArray n → Vals ws its → RepL p.K M H ys ws → ws.length ≤ sizeLine →
        Post p (Rep p.K) (match allS ys with
        | some ss => if ss.length < 64 then rok (.lst ((sortS ss).map .str)) S else .bad
        | none => .bad) M H Q W' → wpAny (model X.prog X.w) X.A (call (.builtin "sorted") [u]) (EP X pins σ Q) X.xe s := by
      intro T ys ws qa its o n hT e ho hc hd rv rl hz q2
      subst e
      cases ea : allS ys with
      | none => rw [ea] at q2; exact (show False from q2).elim
      | some ss =>
        rw [ea] at q2
        simp only at q2
        by_cases h64 : ss.length < 64
        · rw [if_pos h64] at q2
          have e1 := allS_some ea
          subst e1
          obtain ⟨rfl, hok⟩ := rep_strs rl
          refine sorted_seq hT ho hc hd rv.strs (by rw [← rv.length]; exact hz) fun h1 h' out ep ss' k1 k2 he hs hp hso => ?_
          have e2 := sorted_is hp hso
          subst e2
          have I1 : Inv X pins σ H { s with heap := h1 } := A.inv.kept (t' := s.toks) k1
          have hf : H h1.objs.size = none := I1.hok.fresh (Nat.le_refl _)
          have hl : ((sortS ss).map SS).length = ss.length := by rw [List.length_map, (sortS_perm ss).length_eq]
          refine ⟨.ref h1.objs.size, _, I1.laid (t' := s.toks) (o := .lst (((sortS ss).map SS).map V.str)) k2 (Nat.le_refl _) ⟨by rw [List.length_map, hl]; exact thousand (by omega), out, ep, strs_vals hs, he⟩, rfl, ?_⟩
          exact fin_new q2 A.ok hf (new_lst (s := A.ok) hf (strs_rep fun z hz => hok z ((sortS_perm ss).mem_iff.mp hz)))
        · rw [if_neg h64] at q2; exact (show False from q2).elim
    rcases rep_res A.ok r1 with ⟨m, ys, qa, ws, rfl, e, rfl, hq, rl⟩ | ⟨e, np⟩
    · rw [e] at q'
      obtain ⟨its, rr, ⟨o, n, ho, hc, _, hd⟩, hz⟩ := A.inv.list (SqL.of (K := X.K) hq)
      have q2 : Post p (Rep p.K) (match allS ys with
        | some ss => if ss.length < 64 then rok (.lst ((sortS ss).map .str)) S else .bad
        | none => if sortOk ys then rok (.lst (psort ys)) S else .bad) M H Q W' := q'
      cases ea : allS ys with
      | some ss => exact fin "list" ys ws qa its o n (.inl rfl) ru ho hc hd rr rl hz (by rw [ea] at q2 ⊢; exact q2)
      | none =>
        rw [ea] at q2
        subst ru
        exact sort_d hK hr A (.of hq) rl rfl q2
    · rw [e] at q'
      cases x with
      | tup ys =>
        unfold Rep at r1
        obtain ⟨qa, ws, rfl, h1, h2⟩ := r1
        obtain ⟨its, rr, ⟨o, ho, hc, n, hd⟩, hz⟩ := A.inv.tuple (h1.sq (K := X.K))
        cases ea : allS ys with
        | some ss => exact fin "tuple" ys ws qa its o n (.inr rfl) ru ho hc hd rr h2 hz (by
            have q2 : Post p (Rep p.K) (match allS ys with
              | some ss => if ss.length < 64 then rok (.lst ((sortS ss).map .str)) S else .bad
              | none => match allI ys with
                | some is => if is.length ≤ 1000 then rok (.lst ((sortL is).map .int)) S else .bad
                | none => .bad) M H Q W' := q'
            rw [ea] at q2 ⊢; exact q2)
        | none =>
          have q2 : Post p (Rep p.K) (match allS ys with
              | some ss => if ss.length < 64 then rok (.lst ((sortS ss).map .str)) S else .bad
              | none => match allI ys with
                | some is => if is.length ≤ 1000 then rok (.lst ((sortL is).map .int)) S else .bad
                | none => .bad) M H Q W' := q'
          rw [ea] at q2
          have q3 : Post p (Rep p.K) (match allI ys with
                | some is => if is.length ≤ 1000 then rok (.lst ((sortL is).map .int)) S else .bad
                | none => .bad) M H Q W' := q2
          cases ei : allI ys with
          | none => rw [ei] at q3; exact (show False from q3).elim
          | some is =>
            rw [ei] at q3
            simp only at q3
            by_cases hl : is.length ≤ 1000
            · rw [if_pos hl] at q3
              have e1 := allI_some ei
              subst e1
              have e2 := rep_intsI h2
              subst e2
              subst ru
              have hI : IntsAre its is := Vals.ints rr
              refine sorted_seqI (.inr rfl) ho hc hd hI (by rw [← rr.length]; exact hz) fun h1 h' out ep is' k1 k2 he hs hp hso => ?_
              have e2 := sortL_is hp hso
              subst e2
              have I1 : Inv X pins σ H { s with heap := h1 } := A.inv.kept (t' := s.toks) k1
              have hf : H h1.objs.size = none := I1.hok.fresh (Nat.le_refl _)
              have hl2 : (sortL is).length = is.length := (sortL_perm is).length_eq
              refine ⟨.ref h1.objs.size, _, I1.laid (t' := s.toks) (o := .lst ((sortL is).map V.int)) k2 (Nat.le_refl _) ⟨by rw [List.length_map, hl2]; exact thousand hl, out, ep, vals_ints hs, he⟩, rfl, ?_⟩
              exact fin_new q3 A.ok hf (new_lst (s := A.ok) hf (ints_repI _))
            · rw [if_neg hl] at q3; exact (show False from q3).elim
      | lst ys =>
        unfold Rep at r1
        obtain ⟨qa, ws, rfl, h1, h2⟩ := r1
        obtain ⟨its, rr, ⟨o, n, ho, hc, _, hd⟩, hz⟩ := A.inv.list (h1.sq (K := X.K))
        have q2 : Post p (Rep p.K) (match allS ys with
        | some ss => if ss.length < 64 then rok (.lst ((sortS ss).map .str)) S else .bad
        | none => if sortOk ys then rok (.lst (psort ys)) S else .bad) M H Q W' := q'
        cases ea : allS ys with
        | some ss => exact fin "list" ys ws qa its o n (.inl rfl) ru ho hc hd rr h2 hz (by rw [ea] at q2 ⊢; exact q2)
        | none =>
          rw [ea] at q2
          subst ru
          exact sort_d hK hr A h1.sq h2 rfl q2
      | _ => exact (show False from q').elim
  · exact (show False from q).elim
theorem cp_sum (hK : X.K = p.K) (hc : X.calm = true) : CallP p X (.builtin "sum") .sum := by
  intro pins s σ ρ M S H xs vs us Q W' A r rv q
  rcases xs with _ | ⟨x, _ | ⟨y, l⟩⟩
  · exact (show False from q).elim
  · obtain ⟨v, rfl, r1⟩ := RepL.one (xs := []) r
    have q' : Post p (Rep p.K) (match res S x with
      | .lst xs => match allI xs with
        | some is => rok (.int is.sum) S
        | none => .bad
      | _ => .bad) M H Q W' := q
    have fin : ∀ (ys : List PV) (ws : List V) (qa : Addr), v = .ref qa → SqL X.K H qa ws → RepL p.K M H ys ws → Post p (Rep p.K) (match allI ys with
        | some is => rok (.int is.sum) S
        | none => .bad) M H Q W' → wpAny (model X.prog X.w) X.A (call (.builtin "sum") us) (EP X pins σ Q) X.xe s := by
      intro ys ws qa ev hq rl q2
      subst ev
      cases ea : allI ys with
      | none => rw [ea] at q2; exact (show False from q2).elim
      | some is =>
        rw [ea] at q2
        have e1 := allI_some ea
        subst e1
        have e2 := rep_intsI rl
        subst e2
        exact cr_sum hc pins s σ H _ us Q A.inv rv ⟨qa, is, rfl, hq, fin0 A (x := .int is.sum) q2 rep_int⟩
    rcases rep_res A.ok r1 with ⟨m, ys, qa, ws, rfl, e, rfl, hq, rl⟩ | ⟨e, np⟩
    · rw [e] at q'
      exact fin ys ws qa rfl (SqL.of (K := X.K) hq) rl q'
    · rw [e] at q'
      cases x with
      | lst ys =>
        unfold Rep at r1
        obtain ⟨qa, ws, rfl, h1, h2⟩ := r1
        exact fin ys ws qa rfl h1.sq h2 q'
      | _ => exact (show False from q').elim
  · exact (show False from q).elim
theorem cp_max1 {n : Nat} (hK : X.K = p.K) (hc : X.calm = true) (hr : Room n X.A) : CallP p X (.builtin "max") .max1 := by
  intro pins s σ ρ M S H xs vs us Q W' A r rv q
  rcases xs with _ | ⟨x, _ | ⟨y, l⟩⟩
  · exact (show False from q).elim
  · obtain ⟨v, rfl, r1⟩ := RepL.one (xs := []) r
    obtain ⟨u, rfl, ru⟩ := vals1 rv
    have q' : Post p (Rep p.K) (match res S x with
      | .lst xs => match allI xs with
        | some (i :: r) => rok (.int (r.foldl max i)) S
        | _ => .bad
      | _ => .bad) M H Q W' := q
    have fin : ∀ (ys : List PV) (ws : List V) (qa : Addr), SqL X.K H qa ws → RepL p.K M H ys ws → RelV (.ref qa) u → Post p (Rep p.K) (match allI ys with
        | some (i :: r) => rok (.int (r.foldl max i)) S
        | _ => .bad) M H Q W' → wpAny (model X.prog X.w) X.A (call (.builtin "max") [u]) (EP X pins σ Q) X.xe s := by
      intro ys ws qa hq rl ru q2
      cases ea : allI ys with
      | none => rw [ea] at q2; exact (show False from q2).elim
      | some is =>
        rw [ea] at q2
        cases is with
        | nil => exact (show False from q2).elim
        | cons i is =>
          have e1 := allI_some ea
          subst e1
          cases ru
          obtain ⟨its, rv, ht, hz⟩ := A.inv.list hq
          have er : PySem.W.EachIs (fun v b => ∃ as, PySem.Reads s.heap v (PySem.PyData.int b) as) its (i :: is) := by
            have e0 : PySem.W.EachIs (fun v b => ∃ as, PySem.Reads s.heap v (toD b) as) its ((i :: is).map .int) := each_rep (β := Unit) rl rv fun x v u hx a b => by
              obtain ⟨j, _, rfl⟩ := List.mem_map.mp hx
              have := rep_dp (.int j) 0 v rfl a
              rw [← hK] at this
              exact Dp.reads A.inv _ v u this b
            exact each_ints e0
          obtain ⟨as, ra⟩ := PySem.W.each_readsAll PySem.PyData.int er
          refine PySem.W.max_list_data (A.inv.ok.hd hc) ht.isList (x := .int i) (xs := is.map .int) ra ⟨?_, ?_⟩ ?_ fun k v h' tk bs _ rb hk => ?_
          · intro x hx y hy
            rw [← List.map_cons (f := PySem.PyData.int)] at hx hy
            obtain ⟨a, _, rfl⟩ := List.mem_map.mp hx
            obtain ⟨b, _, rfl⟩ := List.mem_map.mp hy
            simp [PySem.W.alike]
          · intro x hx e
            rw [← List.map_cons (f := PySem.PyData.int)] at hx
            obtain ⟨a, _, rfl⟩ := List.mem_map.mp hx
            cases e
          · have : ∀ l : List Int, PySem.PyData.depthAll (l.map .int) = 0 := fun l => by
              induction l with
              | nil => rfl
              | cons a r ih => show max 0 _ = 0; rw [ih]; rfl
            have e := this (i :: is)
            rw [List.map_cons] at e
            rw [e]
            have := hr.un
            omega
          · rw [PySem.W.maxD_ints] at rb
            cases rb with
            | int i t =>
              have A1 : At p X pins σ { s with heap := h', toks := tk } ρ M S H := ⟨A.inv.kept (t' := tk) hk, A.env, A.ok⟩
              exact ⟨.int _, H, A1.inv, ⟨_, rfl⟩, fin0 A1 (x := .int _) q2 rep_int⟩
    rcases rep_res A.ok r1 with ⟨m, ys, qa, ws, rfl, e, rfl, hq, rl⟩ | ⟨e, np⟩
    · rw [e] at q'
      exact fin ys ws qa (SqL.of (K := X.K) hq) rl ru q'
    · rw [e] at q'
      cases x with
      | lst ys =>
        unfold Rep at r1
        obtain ⟨qa, ws, rfl, h1, h2⟩ := r1
        exact fin ys ws qa h1.sq h2 ru q'
      | _ => exact (show False from q').elim
  · exact (show False from q).elim
theorem noBase {o : Expr} {m : Str} {env : PySem.Env} {w : Sem Value} (h : notSuper o = true) : attributeBase o m env w = w := by
  unfold attributeBase
  split
  · simp [notSuper] at h
  · rfl
def mthR (pr : Pr) (r : Ev) (rs : Env → Store → R (List PV)) : Ev := fun ρ S => (r ρ S).bind fun x S1 => if recv pr S1 x then (rs ρ S1).bind fun xs S2 => pri pr (x :: xs) S2 else .bad
/-- a method of a built-in type, by values -/
def MthP (p : Pm) (X : Cx) (m : Str) (pr : Pr) : Prop := ∀ (pins : List (Addr × Obj)) (s : Shared) (σ : L2.St) (ρ : Env) (M : Ms) (S : Store) (H : Hp) (x : PV) (v : V) (u : Value), At p X pins σ s ρ M S H → Rep p.K M H x v → RelV v u → recv pr S x = true →
  ∃ T id, PlainAttrs T ∧ Slot T m id ∧ typeOf (.builtin id) = pure (.type "method_descriptor") ∧ s.TypeIs u T ∧ (∀ a, u = .ref a → ∃ ob, s.heap.get? a = some ob ∧ ob.dict = none) ∧
    ∀ (s2 : Shared) (M2 : Ms) (S2 : Store) (H2 : Hp) (xs : List PV) (vs : List V) (us : List Value) (Q : VK) (W' : XK), At p X pins σ s2 ρ M2 S2 H2 → Rep p.K M2 H2 x v → RepL p.K M2 H2 xs vs → Vals vs us → Post p (Rep p.K) (pri pr (x :: xs) S2) M2 H2 Q W' →
      wpAny (model X.prog X.w) X.A (call (.builtin id) (u :: us)) (EP X pins σ Q) X.xe s2
theorem few_all {es : List Expr} {env : PySem.Env} {pos : Pos} (h : es.all notStar = true) : (backTo pos (starEach es env)).all (fun x => !x.1) = true := by
  induction es with
  | nil => rfl
  | cons e es ih =>
    rw [List.all_cons, Bool.and_eq_true] at h
    rw [star_not h.1]
    exact ih h.2
/-- o.m(e, ..) -/
theorem s_mth {pr : Pr} {o e : Expr} {es : List Expr} {m : Str} {apos cpos : Pos} {ro : Ev} {rs : Env → Store → R (List PV)} (hm : MthP p X m pr) (ho : PE X o (tD p ro W)) (ha : PA X (e :: es) (tDA p rs W)) (hs : (e :: es).all notStar = true) (hb : notSuper o = true)
    (hn : (e :: es).length < 30) (hline : (apos.endLine == cpos.line) = true) : PE X (.Call (.Attribute o m apos) (e :: es) [] cpos) (tD p (mthR pr ro rs) W) := by
  refine peOf fun pins s σ H ρ M S Q A q => ?_
  have hst := star_not (env := X.env) (by rw [List.all_cons, Bool.and_eq_true] at hs; exact hs.1) es
  have hplain : (backTo cpos (starEach es X.env)).any (·.1) = false := any_star (by rw [List.all_cons, Bool.and_eq_true] at hs; exact hs.2)
  have hfew : ((backTo cpos (starEach (e :: es) X.env)).all (fun x => !x.1) && (backToKw cpos (keywordEach [] X.env)).all (fun x => x.1.isSome)
      && decide ((e :: es).length + ([] : List Keyword).length + (if ([] : List Keyword).isEmpty then 0 else 1) < 30)) = true := by
    rw [few_all hs]
    show (true && decide ((e :: es).length + 0 + 0 < 30)) = true
    exact decide_eq_true hn
  refine wpAny_Call_method_late (noBase hb) hfew hline rfl (one (k := fun ρ x S1 => if recv pr S1 x then (rs ρ S1).bind fun xs S2 => pri pr (x :: xs) S2 else .bad) ho A q fun u s1 x v M1 S1 H1 e1 A1 rp rv q1 => ?_)
  by_cases hr : recv pr S1 x = true
  · rw [if_pos hr] at q1
    obtain ⟨T, id, pa, slot, hty, h1, h2, hcall⟩ := hm pins s1 σ ρ M1 S1 H1 x v u A1 rp rv hr
    refine ⟨T, id, pa, slot, hty, h1, h2, ?_⟩
    have hA := oneA (pos := cpos) (k := fun _ xs S2 => pri pr (x :: xs) S2) ha A1 q1 (Qf := fun us s2 => wpAny (model X.prog X.w) X.A (call (.builtin id) (u :: us)) (EP X pins σ Q) X.xe s2) fun us s2 xs vs M2 S2 H2 e2 A2 rp2 rv2 q2 => hcall s2 M2 S2 H2 xs vs us Q _ A2 (rp.ext e2) rp2 rv2 q2
    rw [hst] at hA ⊢
    exact Calls.callWith_builtin (by show (false || (backTo cpos (starEach es X.env)).any (·.1)) = false; rw [hplain] <;> rfl) (Calls.evalArgs_plain hA)
  · rw [if_neg hr] at q1; exact q1.elim
/-- o.m() -/
theorem s_mth0 {pr : Pr} {o : Expr} {m : Str} {apos cpos : Pos} {ro : Ev} (hm : MthP p X m pr) (ho : PE X o (tD p ro W)) (hb : notSuper o = true) (hline : (apos.endLine == cpos.line) = true) :
    PE X (.Call (.Attribute o m apos) [] [] cpos) (tD p (mthR pr ro (fun _ S => .ok [] S)) W) := by
  refine peOf fun pins s σ H ρ M S Q A q => ?_
  refine wpAny_Call_method0_late (noBase hb) hline (one (k := fun ρ x S1 => if recv pr S1 x then (R.ok ([] : List PV) S1).bind fun xs S2 => pri pr (x :: xs) S2 else .bad) ho A q fun u s1 x v M1 S1 H1 e1 A1 rp rv q1 => ?_)
  by_cases hr : recv pr S1 x = true
  · rw [if_pos hr] at q1
    obtain ⟨T, id, pa, slot, hty, h1, h2, hcall⟩ := hm pins s1 σ ρ M1 S1 H1 x v u A1 rp rv hr
    exact ⟨T, id, pa, slot, hty, h1, h2, Calls.callWith_builtin rfl (PySem.evalArgs_none (hcall s1 M1 S1 H1 [] [] [] Q _ A1 rp .nil .nil q1))⟩
  · rw [if_neg hr] at q1; exact q1.elim
theorem idxOf_first : ∀ {ss : List (List Nat)} {z : List Nat}, z ∈ ss → ss[ss.idxOf z]? = some z ∧ ∀ m, m < ss.idxOf z → ss[m]? ≠ some z
  | a :: r, z, h => by
    rw [List.idxOf_cons]
    by_cases e : a = z
    · subst e
      simp
    · have hb : (a == z) = false := by simpa using e
      rw [hb]
      have hz : z ∈ r := by
        rcases List.mem_cons.mp h with q | q
        · exact absurd q.symm e
        · exact q
      obtain ⟨h1, h2⟩ := idxOf_first hz
      refine ⟨by simpa using h1, fun m hm => ?_⟩
      cases m with
      | zero => simpa using e
      | succ m =>
        have : m < r.idxOf z := by simpa using hm
        simpa using h2 m this
theorem mp_index (hK : X.K = p.K) : MthP p X "index" .index := by
  intro pins s σ ρ M S H x v u A r rv hr
  cases x with
  | tup xs =>
    unfold Rep at r
    obtain ⟨a, vs, rfl, ⟨⟨o, ho, hd, hcl⟩, hM⟩, rl⟩ := r
    cases rv
    have hob := A.inv.hok a _ ho
    obtain ⟨h1, _⟩ := hob
    refine ⟨"tuple", "tuple.index", PySem.F.plainAttrs_tuple, PySem.F.slot_tuple_index, PySem.F.type_tuple_index, ⟨o, h1, hcl⟩, fun b e => by cases e; exact ⟨o, h1, hd⟩, ?_⟩
    intro s2 M2 S2 H2 ys ws us Q W' A2 r2 rl2 rv2 q
    rcases ys with _ | ⟨y, _ | ⟨y2, l⟩⟩
    · exact (show False from q).elim
    · cases y with
      | str z =>
        have q' : Post p (Rep p.K) (match allS xs with
          | some ss => if z ∈ ss then rok (.int (ss.idxOf z)) S2 else .bad
          | none => .bad) M2 H2 Q W' := q
        cases ea : allS xs with
        | none => rw [ea] at q'; exact (show False from q').elim
        | some ss =>
          rw [ea] at q'
          simp only at q'
          by_cases hz : z ∈ ss
          · rw [if_pos hz] at q'
            have e1 := allS_some ea
            subst e1
            unfold Rep at r2
            obtain ⟨a2, vs2, e2, h2, rl3⟩ := r2
            obtain ⟨rfl, hok⟩ := rep_strs rl3
            obtain ⟨w, rfl, rz⟩ := RepL.one (xs := []) rl2
            unfold Rep at rz
            obtain ⟨rfl, oz⟩ := rz
            obtain ⟨f1, f2⟩ := idxOf_first hz
            cases e2
            refine mt_tup_index pins s2 σ H2 (.ref a) _ _ us Q A2.inv rfl rv2 ⟨a, ss.map SS, SS z, ss.idxOf z, rfl, rfl, h2.sq, by rw [List.getElem?_map, f1]; rfl, fun m hm e => ?_, fin0 A2 q' rep_int⟩
            rw [List.getElem?_map] at e
            cases em : ss[m]? with
            | none => rw [em] at e; cases e
            | some y =>
              rw [em] at e
              have e3 : SS y = SS z := Option.some.inj e
              have e4 : y = z := by
                have : y.toArray = z.toArray := congrArg Str.cps e3
                simpa using congrArg Array.toList this
              exact f2 m hm (by rw [em, e4])
          · rw [if_neg hz] at q'; exact (show False from q').elim
      | _ => exact (show False from q).elim
    · cases y <;> exact (show False from q).elim
  | _ => exact absurd hr (by simp [recv])
end G
set_option maxHeartbeats 1000000
namespace G
open PySem PySem.Spec PyProof.Rows L2
variable {p : Pm} {X : Cx} {W : WX} {M : Ms} {H : Hp} {S : Store} {K : PySem.W.Frag} {a b c : Expr} {ra rb rc : Ev} {pos p2 : Pos}
abbrev EvO := Env → Store → R (Option Int)
def repO : Ms → Hp → Option Int → Option Int → Prop := fun _ _ a b => a = b
def tDO (p : Pm) (r : EvO) (W : WX) : TO := fun σ H Q => ∃ ρ M S, EnvOk p.K M H ρ σ ∧ SOk p M S H ∧ Post p repO (r ρ S) M H Q (wAt W σ)
theorem s_ono : PO X none (tDO p (fun _ S => .ok none S) W) := by
  refine ⟨fun pins s σ H Q I ⟨ρ, M, S, he, hs, q⟩ => ?_⟩
  exact po_none.run pins s σ H Q I (q.done hs rfl)
theorem s_osome (ha : PE X a (tD p ra W)) : PO X (some a) (tDO p (fun ρ S => (ra ρ S).bind asI) W) := by
  refine ⟨fun pins s σ H Q I ⟨ρ, M, S, he, hs, q⟩ => ?_⟩
  refine (po_some ha).run pins s σ H Q I ⟨ρ, M, S, he, hs, ?_⟩
  refine (Post.bind (rep := Rep p.K) (k := asI) q).mono (fun w H1 ⟨M1, S1, v, e1, ok1, r1, q1⟩ => ?_) fun _ _ _ h => h
  cases v with
  | int i =>
    unfold Rep at r1
    subst r1
    exact ⟨i, rfl, q1.done ok1 rfl⟩
  | _ => exact (show False from q1).elim
theorem oneO {α β : Type} {rep : Ms → Hp → α → β → Prop} {Q : β → Hp → Prop} {e : Option Expr} {r : EvO} {k : Env → Option Int → Store → R α} (h1 : PO X e (tDO p r W)) {pins : List (Addr × Obj)} {s : Shared} {σ : L2.St} {H : Hp} {ρ : Env} {M : Ms} {S : Store}
    (A : At p X pins σ s ρ M S H) (h : Post p rep ((r ρ S).bind fun x S1 => k ρ x S1) M H Q (wAt W σ)) {Qf : Value → Shared → Prop}
    (hf : ∀ u s1 o M1 S1 H1, Ext M H M1 H1 → At p X pins σ s1 ρ M1 S1 H1 → IsPart u o → Post p rep (k ρ o S1) M1 H1 Q (wAt W σ) → Qf u s1) :
    wpAny (model X.prog X.w) X.A (evalPart e X.env) Qf X.xe s := by
  refine thn (h1.run pins s σ H _ A.inv ⟨ρ, M, S, A.env, A.ok, h.bind⟩) fun u s1 hh => ?_
  obtain ⟨o, H1, I1, pl, M1, S1, x, e1, s1', rp, q⟩ := hh
  have rp : x = o := rp
  subst rp
  exact hf u s1 x M1 S1 H1 e1 ⟨I1, A.env.ext e1, s1'⟩ pl q
theorem okS_sub {z y : List Nat} (h : okS z = true) (hm : ∀ c ∈ y, c ∈ z) (hl : y.length ≤ z.length) : okS y = true := by
  unfold okS at h ⊢
  rw [Bool.and_eq_true] at h ⊢
  refine ⟨List.all_eq_true.mpr fun c hc => List.all_eq_true.mp h.1 c (hm c hc), decide_eq_true ?_⟩
  have := of_decide_eq_true h.2
  omega
theorem cutL_cutV (xs : List V) (lo hi : Option Int) : cutL xs lo hi = cutV xs lo hi := rfl
theorem RepL.cut {xs : List PV} {vs : List V} (h : RepL K M H xs vs) (lo hi : Option Int) : RepL K M H (cutL xs lo hi) (cutV vs lo hi) := by
  unfold cutL cutV
  rw [h.length]
  exact (h.drop _).take _
theorem cutL_mem {α : Type} {xs : List α} {lo hi : Option Int} {c : α} (h : c ∈ cutL xs lo hi) : c ∈ xs := List.mem_of_mem_drop (List.mem_of_mem_take h)
theorem cutL_len {α : Type} (xs : List α) (lo hi : Option Int) : (cutL xs lo hi).length ≤ xs.length := by
  unfold cutL
  rw [List.length_take, List.length_drop]
  omega
/-- a slice by values -/
def SlP (p : Pm) (X : Cx) : Prop := ∀ (pins : List (Addr × Obj)) (s : Shared) (σ : L2.St) (ρ : Env) (M : Ms) (S : Store) (H : Hp) (x : PV) (v : V) (u vl vu : Value) (lo hi : Option Int) (sl : Addr) (Q : VK) (W' : XK), At p X pins σ s ρ M S H → Rep p.K M H x v → RelV v u →
  s.heap.IsSliceOf sl vl vu .none → IsPart vl lo → IsPart vu hi → Post p (Rep p.K) (slc false x lo hi S) M H Q W' →
    ∃ T id, typeLookup (.type T) "__getitem__" = pure (some (.builtin id)) ∧ s.TypeIs u T ∧ wpAny (model X.prog X.w) X.A (getItem u (.ref sl)) (EP X pins σ Q) X.xe s
theorem sl_p (hK : X.K = p.K) : SlP p X := by
  intro pins s σ ρ M S H x v u vl vu lo hi sl Q W' A r rv hs pl pu q
  have q' : Post p (Rep p.K) (match res S x with
    | .tup xs => rok (.tup (cutL xs lo hi)) S
    | .lst xs => rok (.lst (cutL xs lo hi)) S
    | .str xs => rok (.str (cutL xs lo hi)) S
    | _ => .bad) M H Q W' := q
  rcases rep_res A.ok r with ⟨m, ys, qa, ws, rfl, e, rfl, hq, rl⟩ | ⟨e, np⟩
  · rw [e] at q'
    exact sl_list pins s σ H _ u vl vu lo hi sl Q A.inv rv hs pl pu ⟨qa, ws, rfl, .of hq, fun l hl => fin_new q' A.ok hl (new_lst (s := A.ok) hl (rl.cut lo hi))⟩
  · rw [e] at q'
    cases x with
    | lst ys =>
      unfold Rep at r
      obtain ⟨qa, ws, rfl, h1, rl⟩ := r
      exact sl_list pins s σ H _ u vl vu lo hi sl Q A.inv rv hs pl pu ⟨qa, ws, rfl, h1.sq, fun l hl => fin_new q' A.ok hl (new_lst (s := A.ok) hl (rl.cut lo hi))⟩
    | str z =>
      unfold Rep at r
      obtain ⟨rfl, o⟩ := r
      refine sl_str pins s σ H _ u vl vu lo hi sl Q A.inv rv hs pl pu ⟨SS z, rfl, ?_, ?_⟩
      · rw [SS_len, ← SL_eq]
        have o2 := o
        unfold okS at o2
        rw [Bool.and_eq_true] at o2
        exact of_decide_eq_true o2.2
      · have : cutS (SS z) lo hi = SS (cutL z lo hi) := by
          unfold cutS cutL
          rw [SS_len]
        rw [this]
        exact fin0 A q' (by unfold Rep; exact ⟨rfl, okS_sub o (fun c hc => cutL_mem hc) (cutL_len z lo hi)⟩)
    | tup ys =>
      have r' := r
      have q' : Post p (Rep p.K) (rok (.tup (cutL ys lo hi)) S) M H Q W' := q'
      unfold Rep at r
      obtain ⟨qa, ws, rfl, h1, rl⟩ := r
      cases rv
      obtain ⟨its, t, ht, hz⟩ := A.inv.tuple (h1.sq (K := X.K))
      have hlen : its.toArray.size = ws.length := by rw [List.size_toArray]; exact t.length.symm
      refine ⟨"tuple", _, PyProof.Rows.slot_tuple_getitem.lookup, ht.typeIs, ?_⟩
      by_cases hw : HT.sIx ws.length 0 lo = 0 ∧ HT.sIx ws.length ws.length hi = ws.length
      · refine getItem_tuple_whole ht hs pl pu (by rw [hlen]; exact hw) ⟨.ref qa, H, A.inv, rfl, ?_⟩
        have ec : cutL ys lo hi = ys := by
          unfold cutL
          rw [rl.length, hw.1, hw.2]
          simp [← rl.length]
        rw [ec] at q'
        exact fin0 A q' r'
      · refine HT.getItem_tuple_cut ht hs pl pu (by rw [hlen]; exact hw) ?_ (by rw [hlen]; exact hz)
        rw [hlen]
        exact fin_tup (t' := s.toks) A q' (rl.cut lo hi) ((t.drop (HT.sIx ws.length 0 lo)).take (HT.sIx ws.length ws.length hi - HT.sIx ws.length 0 lo)) (Nat.le_trans (cutV_length ws lo hi) hz)
    | _ => exact (show False from q').elim
def slcR (back : Bool) (r : Ev) (rl ru : EvO) : Ev := fun ρ S => (r ρ S).bind fun x S1 => (rl ρ S1).bind fun lo S2 => (ru ρ S2).bind fun hi S3 => slc back x lo hi S3
theorem s_slc {l h : Option Expr} {rl ru : EvO} (hK : X.K = p.K) (ha : PE X a (tD p ra W)) (hl : PO X l (tDO p rl W)) (hh : PO X h (tDO p ru W)) : PE X (.Subscript a (.Slice l h none p2) pos) (tD p (slcR false ra rl ru) W) := by
  refine peOf fun pins s σ H ρ M S Q A q => ?_
  refine Subscript_ (one (k := fun ρ x S1 => (rl ρ S1).bind fun lo S2 => (ru ρ S2).bind fun hi S3 => slc false x lo hi S3) ha A q fun v s1 x vv M1 S1 H1 e1 A1 rp rv q1 => ?_)
  refine wpAny_Slice (oneO (k := fun ρ lo S2 => (ru ρ S2).bind fun hi S3 => slc false x lo hi S3) hl A1 q1 fun vl s2 lo M2 S2 H2 e2 A2 pl q2 => oneO (k := fun ρ hi S3 => slc false x lo hi S3) hh A2 q2 fun vu s3 hi M3 S3 H3 e3 A3 pu q3 => ?_)
  rw [evalPart_none]
  refine wpAny_pure ?_
  have A4 : At p X pins σ { s3 with heap := s3.heap.push { cls := .type "slice", data := .fields #[vl, vu, .none] } } ρ M3 S3 H3 := ⟨A3.inv.kept (t' := s3.toks) fun b ob q => Heap.get?_push_of_some _ q, A3.env, A3.ok⟩
  obtain ⟨T, id, hT, ht, hg⟩ := sl_p hK pins { s3 with heap := s3.heap.push { cls := .type "slice", data := .fields #[vl, vu, .none] } } σ ρ M3 S3 H3 x vv v vl vu lo hi s3.heap.objs.size Q _ A4 ((rp.ext e2).ext e3) rv (Heap.IsSliceOf.new ..) pl pu q3
  show wpAny (model X.prog X.w) X.A (subscriptTail a (.Slice l h none p2) v (.ref s3.heap.objs.size)) (EP X pins σ Q) X.xe { s3 with heap := s3.heap.push { cls := .type "slice", data := .fields #[vl, vu, .none] } }
  exact tail_any (ops := [.ref s3.heap.objs.size, v]) ht hT hg (by with_unfolding_all rfl)
def bLo (n : Nat) : Option Int → Nat
  | none => n
  | some i => min (i.toNat + 1) n
def bHi (n : Nat) : Option Int → Nat
  | none => 0
  | some j => min (j.toNat + 1) n
theorem cutB_eq {α : Type} (xs : List α) (lo hi : Option Int) : cutB xs lo hi = ((xs.take (bLo xs.length lo)).drop (bHi xs.length hi)).reverse := by
  have e0 : cutB xs lo hi = (match hi with | none => (match lo with | none => xs | some i => xs.take (i.toNat + 1)).reverse | some j => ((match lo with | none => xs | some i => xs.take (i.toNat + 1)).drop (j.toNat + 1)).reverse) := rfl
  rw [e0]
  clear e0
  have e1 : (match lo with | none => xs | some i => xs.take (i.toNat + 1)) = xs.take (bLo xs.length lo) := by
    cases lo with
    | none => exact (List.take_of_length_le (Nat.le_refl _)).symm
    | some i =>
      show xs.take (i.toNat + 1) = xs.take (min (i.toNat + 1) xs.length)
      rcases Nat.le_total (i.toNat + 1) xs.length with h | h
      · rw [Nat.min_eq_left h]
      · rw [Nat.min_eq_right h, List.take_of_length_le h, List.take_of_length_le (Nat.le_refl _)]
  rw [e1]
  cases hi with
  | none => rfl
  | some j =>
    show ((xs.take (bLo xs.length lo)).drop (j.toNat + 1)).reverse = ((xs.take (bLo xs.length lo)).drop (min (j.toNat + 1) xs.length)).reverse
    rcases Nat.le_total (j.toNat + 1) xs.length with h | h
    · rw [Nat.min_eq_left h]
    · have hl : (xs.take (bLo xs.length lo)).length ≤ xs.length := by rw [List.length_take]; exact Nat.min_le_right _ _
      rw [Nat.min_eq_right h, List.drop_of_length_le (Nat.le_trans hl h), List.drop_of_length_le hl]
theorem back_adj {lo hi : Option Int} {n : Nat} (h1 : nonneg lo = true) (h2 : nonneg hi = true) : Builtin.Slice.sliceAdjust lo hi (-1) (n : Int) = (((bLo n lo : Nat) : Int) - 1, ((bHi n hi : Nat) : Int) - 1) := by
  unfold Builtin.Slice.sliceAdjust
  simp only [show ((-1 : Int) < 0) = True from by simp, if_true]
  refine Prod.ext ?_ ?_
  · cases lo with
    | none => rfl
    | some v =>
      have hv : 0 ≤ v := of_decide_eq_true h1
      show (if v < 0 then max (v + n) (-1) else min v ((n : Int) - 1)) = ((min (v.toNat + 1) n : Nat) : Int) - 1
      rw [if_neg (by omega)]
      omega
  · cases hi with
    | none => rfl
    | some v =>
      have hv : 0 ≤ v := of_decide_eq_true h2
      show (if v < 0 then max (v + n) (-1) else min v ((n : Int) - 1)) = ((min (v.toNat + 1) n : Nat) : Int) - 1
      rw [if_neg (by omega)]
      omega
theorem back_places (i j : Nat) : Builtin.Slice.slicePlaces ((i : Int) - 1) ((j : Int) - 1) (-1) = i - j := by
  unfold Builtin.Slice.slicePlaces
  have h1 : ¬ ((-1 : Int) > 0) := by omega
  simp only [h1, if_false]
  rw [show (-(-1) : Int) = 1 by decide, Int.ediv_one]
  split <;> omega
theorem back_pick (xs : Array Value) (i j : Nat) (hi : i ≤ xs.size) : ((List.range (i - j)).filterMap fun (m : Nat) => xs[(((i : Int) - 1) + (m : Int) * (-1)).toNat]?).toArray = (((xs.toList.take i).drop j).reverse).toArray := by
  congr 1
  have hl : (((xs.toList.take i).drop j).reverse).length = i - j := by
    rw [List.length_reverse, List.length_drop, List.length_take, Array.length_toList]
    omega
  have key : ∀ m, m < i - j → xs[(((i : Int) - 1) + (m : Int) * (-1)).toNat]? = (((xs.toList.take i).drop j).reverse)[m]? := fun m hm => by
    rw [List.getElem?_reverse (by rw [List.length_drop, List.length_take, Array.length_toList]; omega), List.length_drop, List.length_take, Array.length_toList, List.getElem?_drop]
    rw [List.getElem?_take]
    rw [if_pos (by omega), Array.getElem?_toList]
    congr 1
    omega
  have gen : ∀ (ys : List Value) (f : Nat → Option Value), (∀ m, m < ys.length → f m = ys[m]?) → (List.range ys.length).filterMap f = ys := by
    intro ys
    induction ys with
    | nil => intro f _; rfl
    | cons y ys ih =>
      intro f h
      rw [List.length_cons, List.range_succ_eq_map, List.filterMap_cons, h 0 (by simp)]
      simp only [List.getElem?_cons_zero, List.filterMap_map]
      congr 1
      exact ih _ fun m hm => by
        have := h (m + 1) (by simpa using hm)
        simpa using this
  have := gen (((xs.toList.take i).drop j).reverse) _ fun m hm => key m (by rw [hl] at hm; exact hm)
  rw [hl] at this
  exact this
section
variable {prog : Program} {w : World} {A : Around} {E : Value → Shared → Prop} {s : Shared}
theorem sliceApplied_back {sl : Addr} {vl vu vs : Value} {lo hi : Option Int} {n : Nat} {Q : Int × Int × Nat → Shared → Prop} (hs : s.heap.IsSliceOf sl vl vu vs) (pl : IsPart vl lo) (pu : IsPart vu hi) (ps : IsPart vs (some (-1))) (h1 : nonneg lo = true) (h2 : nonneg hi = true)
    (h : Q (((bLo n lo : Nat) : Int) - 1, -1, bLo n lo - bHi n hi) s) : wpAny (model prog w) A (Builtin.Slice.sliceApplied (.ref sl) (pure (n : Int))) Q E s := by
  obtain ⟨os, hos, hcs, hds⟩ := id hs
  unfold Builtin.Slice.sliceApplied Builtin.Slice.sliceFields
  refine wpAny_bind (wpAny_bind (wpAny_field hos hds (x := vl) rfl (wpAny_bind (wpAny_field hos hds (x := vu) rfl (wpAny_bind (wpAny_field hos hds (x := vs) rfl (wpAny_pure ?_)))))))
  refine wpAny_bind (HT.slicePart_ ps ?_)
  show wpAny _ _ (if ((-1 : Int) == 0) = true then _ else _) _ _ s
  rw [if_neg (by decide)]
  refine wpAny_bind (HT.slicePart_ pl (wpAny_bind (HT.slicePart_ pu (wpAny_bind (wpAny_pure ?_)))))
  show wpAny _ _ (match Builtin.Slice.sliceAdjust lo hi (-1) (n : Int) with | (lo, hi) => pure (lo, (-1 : Int), Builtin.Slice.slicePlaces lo hi (-1))) _ _ s
  rw [back_adj h1 h2]
  show wpAny _ _ (pure (((bLo n lo : Nat) : Int) - 1, (-1 : Int), Builtin.Slice.slicePlaces (((bLo n lo : Nat) : Int) - 1) (((bHi n hi : Nat) : Int) - 1) (-1))) _ _ s
  rw [back_places]
  exact wpAny_pure h
theorem getItem_tuple_back {t sl : Addr} {items : Array Value} {vl vu vs : Value} {lo hi : Option Int} {Q : Value → Shared → Prop} (ht : IsTup s.heap t items) (hs : s.heap.IsSliceOf sl vl vu vs) (pl : IsPart vl lo) (pu : IsPart vu hi) (ps : IsPart vs (some (-1))) (h1 : nonneg lo = true) (h2 : nonneg hi = true)
    (h : Q (.ref s.heap.objs.size) { s with heap := s.heap.push { cls := .type "tuple", data := .seq (((items.toList.take (bLo items.size lo)).drop (bHi items.size hi)).reverse).toArray } })
    (hsz : items.size ≤ sizeLine) : wpAny (model prog w) A (getItem (.ref t) (.ref sl)) Q E s := by
  have htake : sizeOk (.seq (((items.toList.take (bLo items.size lo)).drop (bHi items.size hi)).reverse).toArray) := by
    show (((items.toList.take (bLo items.size lo)).drop (bHi items.size hi)).reverse).toArray.size ≤ sizeLine
    rw [List.size_toArray, List.length_reverse, List.length_drop, List.length_take, Array.length_toList]
    omega
  have hlo : bLo items.size lo ≤ items.size := by
    unfold bLo
    cases lo with
    | none => exact Nat.le_refl _
    | some i => exact Nat.min_le_right _ _
  obtain ⟨os, hos, hcs, hds⟩ := id hs
  have hTs : s.TypeIs (.ref sl) "slice" := ⟨os, hos, hcs⟩
  unfold getItem
  try with_reducible refine wpAny_holding ?_
  first | refine wpAny_bind (wpAny_pure ?_) | skip
  refine wpAny_bind (wpAny_sequenceKey ht.typeIs (by decide) ?_)
  refine wpAny_bind (wpAny_callSpecial?_slot (name := Str.ofString "__getitem__") ht.typeIs PyProof.Rows.slot_tuple_getitem
    (wpAny_call_entry PyProof.Rows.slot_tuple_getitem ht.typeIs entry_tuple_getitem ?_ (args_tuple_getitem _ _)))
  show wpAny _ _ (Builtin.Tuple.tupleItemsOf (.ref t) >>= _) _ _ s
  refine wpAny_bind (PyProof.Rows.tupleItemsOf_ ht ?_)
  refine wpAny_bind (wpAny_typeOf hTs ?_)
  rw [if_pos (by decide)]
  refine wpAny_bind (sliceApplied_back hs pl pu ps h1 h2 ?_)
  have hno : ¬ (((((bLo items.size lo : Nat) : Int) - 1) == 0 && (-1 : Int) == 1 && (bLo items.size lo - bHi items.size hi) == items.size) = true) := by
    intro q
    rw [Bool.and_eq_true, Bool.and_eq_true] at q
    exact absurd q.1.2 (by decide)
  show wpAny _ _ (if ((((bLo items.size lo : Nat) : Int) - 1) == 0 && (-1 : Int) == 1 && (bLo items.size lo - bHi items.size hi) == items.size) = true then _ else _) _ _ s
  rw [if_neg hno, back_pick items _ _ hlo]
  first
    | exact wpAny_bind (m := Builtin.Tuple.tupleExact _) (wpAny_newObj_type (wpAny_pure ⟨_, rfl, wpAny_pure h⟩) htake)
    | exact wpAny_bind (m := Builtin.Tuple.tupleExact _) (wpAny_newObj_type (wpAny_bind (wpAny_pure (wpAny_pure ⟨_, rfl, wpAny_pure h⟩))) htake)
    | exact wpAny_bind (wpAny_bind (m := Builtin.Tuple.tupleExact _) (wpAny_newObj_type (wpAny_pure (wpAny_pure ⟨_, rfl, wpAny_pure h⟩)) htake))
    | exact wpAny_bind (wpAny_bind (m := Builtin.Tuple.tupleExact _) (wpAny_newObj_type (wpAny_pure ⟨_, rfl, wpAny_pure h⟩) htake))
end
theorem s_slcB {l h : Option Expr} {k : Nat} {p3 p4 p5 : Pos} {rl ru : EvO} (hK : X.K = p.K) (ha : PE X a (tD p ra W)) (hl : PO X l (tDO p rl W)) (hh : PO X h (tDO p ru W)) : PE X (.Subscript a (.Slice l h (some (.UnaryOp .USub (.Constant (.int 1) k p3) p4)) p5) pos) (tD p (slcR true ra rl ru) W) := by
  refine peOf fun pins s σ H ρ M S Q A q => ?_
  have hst : PO X (some (.UnaryOp .USub (.Constant (.int 1) k p3) p4)) (tPart (tUn (rU fun i => .int (-i)) (tC (.int 1)))) := po_some (pe_un un_neg pe_int)
  refine Subscript_ (one (k := fun ρ x S1 => (rl ρ S1).bind fun lo S2 => (ru ρ S2).bind fun hi S3 => slc true x lo hi S3) ha A q fun v s1 x vv M1 S1 H1 e1 A1 rp rv q1 => ?_)
  refine wpAny_Slice (oneO (k := fun ρ lo S2 => (ru ρ S2).bind fun hi S3 => slc true x lo hi S3) hl A1 q1 fun vl s2 lo M2 S2 H2 e2 A2 pl q2 => oneO (k := fun ρ hi S3 => slc true x lo hi S3) hh A2 q2 fun vu s3 hi M3 S3 H3 e3 A3 pu q3 => ?_)
  refine thn (hst.run pins s3 σ H3 (fun o H4 => o = some (-1) ∧ H4 = H3) A3.inv ⟨1, rfl, -1, rfl, rfl, rfl⟩) fun vs s4 ⟨o, H4, I4, ps, eo, e4⟩ => ?_
  subst eo e4
  have A4 : At p X pins σ { s4 with heap := s4.heap.push { cls := .type "slice", data := .fields #[vl, vu, vs] } } ρ M3 S3 H4 := ⟨I4.kept (t' := s4.toks) fun b ob q => Heap.get?_push_of_some _ q, A3.env, A3.ok⟩
  have rp' := (rp.ext e2).ext e3
  show wpAny (model X.prog X.w) X.A (subscriptTail a (.Slice l h (some (.UnaryOp .USub (.Constant (.int 1) k p3) p4)) p5) v (.ref s4.heap.objs.size)) (EP X pins σ Q) X.xe { s4 with heap := s4.heap.push { cls := .type "slice", data := .fields #[vl, vu, vs] } }
  unfold slc at q3
  simp only [if_true] at q3
  split at q3
  · rename_i hnn
    rw [Bool.and_eq_true] at hnn
    cases x with
    | tup ys =>
      have q4 : Post p (Rep p.K) (rok (.tup (cutB ys lo hi)) S3) M3 H4 Q (wAt W σ) := q3
      unfold Rep at rp'
      obtain ⟨qa, ws, rfl, hx, rl'⟩ := rp'
      cases rv
      obtain ⟨its, t, ht, hz⟩ := A4.inv.tuple (hx.sq (K := X.K))
      have hlen : its.toArray.size = ys.length := by rw [List.size_toArray, ← t.length, rl'.length]
      refine tail_any (ops := [.ref qa, .ref s4.heap.objs.size]) ht.typeIs (PyProof.Rows.slot_tuple_getitem.lookup) ?_ (by with_unfolding_all rfl)
      refine getItem_tuple_back ht (Heap.IsSliceOf.new _ vl vu vs) pl pu ps hnn.1 hnn.2 ?_ (by rw [hlen, rl'.length]; exact hz)
      rw [cutB_eq, ← hlen] at q4
      have tk : ∀ (n : Nat) {xs : List V} {zs : List Value}, Vals xs zs → Vals (xs.take n) (zs.take n) := fun n _ _ h => h.take n
      exact fin_tup (t' := s4.toks) A4 q4 (((rl'.take _).drop _).reverse) (((t.take _).drop _).reverse) (by rw [List.length_reverse, List.length_drop, List.length_take]; omega)
    | ptr m => cases hS : S3[m]? with
      | none => rw [show res S3 (.ptr m) = .ptr m by (show (match S3[m]? with | some (MO.lst xs) => PV.lst xs | _ => .ptr m) = _; rw [hS])] at q3; exact (show False from q3).elim
      | some o => cases o with
        | lst xs => rw [show res S3 (.ptr m) = .lst xs by (show (match S3[m]? with | some (MO.lst xs) => PV.lst xs | _ => .ptr m) = _; rw [hS])] at q3; exact (show False from q3).elim
        | dis xs => rw [show res S3 (.ptr m) = .ptr m by (show (match S3[m]? with | some (MO.lst xs) => PV.lst xs | _ => .ptr m) = _; rw [hS])] at q3; exact (show False from q3).elim
    | _ => exact (show False from q3).elim
  · exact (show False from q3).elim
end G
set_option maxHeartbeats 1000000
namespace G
open PySem PySem.Spec PyProof.Rows L2
variable {p : Pm} {X : Cx} {W : WX} {M : Ms} {H : Hp} {S : Store} {a b : Expr} {ra rb : Ev} {pos p2 : Pos} {tup : Bool}
/-- an item; for a target of several names a plain pair will do -/
def RepI (tup : Bool) (K : PySem.W.Frag) (M : Ms) (H : Hp) (x : PV) (v : V) : Prop := Rep K M H x v ∨ (tup = true ∧ ∃ a xs vs, x = .tup xs ∧ v = .ref a ∧ Rd H a (.tup vs) ∧ RepL K M H xs vs)
/-- these items come, in whatever state the loop has come to -/
def Yl (p : Pm) (tup : Bool) (g : Option (Nat × List PV)) (J : It) (xs : List PV) (M : Ms) (H : Hp) : Prop := ∀ M' H' S', Kp M H M' H' → SOk p M' S' H' → gk g S' = true → ∀ i, (xs.length ≤ i → J.stop i H') ∧
  ∀ x, xs[i]? = some x → J.go i H' ∧ ∀ v H2, J.yld i H' v H2 → Ext M' H' M' H2 ∧ SOk p M' S' H2 ∧ RepI tup p.K M' H2 x v
theorem Yl.kp {g : Option (Nat × List PV)} {J : It} {xs : List PV} {M' : Ms} {H' : Hp} (y : Yl p tup g J xs M H) (k : Kp M H M' H') : Yl p tup g J xs M' H' := fun M2 H2 S2 k2 => y M2 H2 S2 (k.trans k2)
abbrev EvI := Env → Store → R Wk
def repI (p : Pm) (tup : Bool) : Ms → Hp → Wk → It → Prop := fun M H w J => w.xs.length ≤ sizeLine ∧ Yl p tup w.g J w.xs M H
def tDI (p : Pm) (tup : Bool) (r : EvI) (W : WX) : TI := fun σ H R => ∃ ρ M S, EnvOk p.K M H ρ σ ∧ SOk p M S H ∧ Post p (repI p tup) (r ρ S) M H R (wAt W σ)
theorem piWeak {tg e : Expr} {t t' : TI} (h : PI X tg e t) (w : ∀ σ H R, t' σ H R → t σ H R) : PI X tg e t' := ⟨fun pins s σ H R I q => h.run pins s σ H R I (w σ H R q)⟩
theorem peWeak {e : Expr} {t t' : TE} (h : PE X e t) (w : ∀ σ H Q, t' σ H Q → t σ H Q) : PE X e t' := ⟨fun pins s σ H Q I q => h.run pins s σ H Q I (w σ H Q q)⟩
theorem yl_tup {K : PySem.W.Frag} {q : Addr} {xs : List PV} {vs : List V} (h : TupAt M H q vs) (r : RepL p.K M H xs vs) : Yl p tup none (Itt K q) xs M H := by
  intro M' H' S' k s _ i
  have h' := h.kp k
  have r' := r.kp k
  refine ⟨fun hi => ⟨vs, h'.sq, by rw [← r'.length]; exact hi⟩, fun x hx => ?_⟩
  obtain ⟨v, e, rv⟩ := r'.get hx
  refine ⟨⟨vs, v, h'.sq, e⟩, fun v2 H2 ⟨e1, e2⟩ => ?_⟩
  subst e1
  have := e2 vs h'.sq
  rw [e] at this
  cases this
  exact ⟨Ext.refl _ _, s, .inl rv⟩
theorem yl_lst {K : PySem.W.Frag} {q : Addr} {xs : List PV} {vs : List V} (h : LstAt M H q vs) (r : RepL p.K M H xs vs) : Yl p tup none (Itl K q) xs M H := by
  intro M' H' S' k s _ i
  have h' := h.kp k
  have r' := r.kp k
  refine ⟨fun hi => ⟨vs, h'.sq, by rw [← r'.length]; exact hi⟩, fun x hx => ?_⟩
  obtain ⟨v, e, rv⟩ := r'.get hx
  refine ⟨⟨vs, v, h'.sq, e⟩, fun v2 H2 ⟨e1, e2⟩ => ?_⟩
  subst e1
  have := e2 vs h'.sq
  rw [e] at this
  cases this
  exact ⟨Ext.refl _ _, s, .inl rv⟩
theorem yl_str {z : List Nat} (h : okS z = true) : Yl p tup none (Its (SS z)) (z.map fun c => .str [c]) M H := by
  intro M' H' S' k s _ i
  refine ⟨fun hi => ?_, fun x hx => ?_⟩
  · show z.toArray.size ≤ i
    simpa using hi
  rw [List.getElem?_map] at hx
  cases e : z[i]? with
  | none => rw [e] at hx; cases hx
  | some c =>
    rw [e] at hx
    cases hx
    refine ⟨?_, fun v2 H2 ⟨e1, c', e2, e3⟩ => ?_⟩
    · show i < z.toArray.size
      simpa using (List.getElem?_eq_some_iff.mp e).1
    · subst e1 e3
      have e2 : z.toArray[i]? = some c' := e2
      rw [List.getElem?_toArray, e] at e2
      cases e2
      refine ⟨Ext.refl _ _, s, .inl ?_⟩
      unfold Rep
      exact ⟨rfl, okS_one h (List.mem_of_getElem? e)⟩
theorem rangeP_len (n : Int) : (rangeP n).length = n.toNat := by unfold rangeP; simp
theorem yl_rng {n : Int} : Yl p tup none (Itr 0 n.toNat) (rangeP n) M H := by
  intro M' H' S' k s _ i
  refine ⟨fun hi => by rw [rangeP_len] at hi; exact hi, fun x hx => ?_⟩
  unfold rangeP at hx
  rw [List.getElem?_map] at hx
  by_cases hi : i < n.toNat
  · rw [List.getElem?_range hi] at hx
    cases hx
    refine ⟨hi, fun v2 H2 ⟨e1, e2⟩ => ?_⟩
    subst e1 e2
    exact ⟨Ext.refl _ _, s, .inl (by unfold Rep; simp)⟩
  · rw [List.getElem?_eq_none (by simpa using hi)] at hx; cases hx
theorem zipP_get : ∀ {xs ys : List PV} {i : Nat} {z : PV}, (zipP xs ys)[i]? = some z → ∃ x y, xs[i]? = some x ∧ ys[i]? = some y ∧ z = .tup [x, y]
  | [], ys, i, z, h => by simp [zipP] at h
  | x :: xs, [], i, z, h => by simp [zipP] at h
  | x :: xs, y :: ys, 0, z, h => by simp [zipP] at h; exact ⟨x, y, rfl, rfl, h.symm⟩
  | x :: xs, y :: ys, i + 1, z, h => by
    simp only [zipP, List.getElem?_cons_succ] at h
    simpa using zipP_get h
theorem zipP_len : ∀ (xs ys : List PV), (zipP xs ys).length = min xs.length ys.length
  | [], ys => by simp [zipP]
  | x :: xs, [] => by simp [zipP]
  | x :: xs, y :: ys => by simp [zipP, zipP_len xs ys]
theorem yl_zipT {K : PySem.W.Frag} {q q2 : Addr} {xs ys : List PV} {vs ws : List V} (h : TupAt M H q vs) (r : RepL p.K M H xs vs) (h2 : TupAt M H q2 ws) (r2 : RepL p.K M H ys ws) : Yl p true none (RZ.ItzT K q q2) (zipP xs ys) M H := by
  intro M' H' S' k s _ i
  have h' := h.kp k
  have r' := r.kp k
  have h2' := h2.kp k
  have r2' := r2.kp k
  refine ⟨fun hi => ⟨vs, ws, h'.sq, h2'.sq, by rw [← r'.length, ← r2'.length]; rw [zipP_len] at hi; omega⟩, fun z hz => ?_⟩
  obtain ⟨x, y, hx, hy, rfl⟩ := zipP_get hz
  obtain ⟨v, e, rv⟩ := r'.get hx
  obtain ⟨w, e2, rw'⟩ := r2'.get hy
  refine ⟨⟨vs, ws, v, w, h'.sq, h2'.sq, e, e2⟩, fun v2 H2 ⟨T, v3, w3, e3, hT, e4, f1, f2⟩ => ?_⟩
  subst e3 e4
  have g1 := f1 vs h'.sq
  have g2 := f2 ws h2'.sq
  rw [e] at g1; cases g1
  rw [e2] at g2; cases g2
  have E : Ext M' H' M' (upd H' T (.tup [v, w])) := Ext.alloc s hT
  exact ⟨E, s.alloc hT, .inr ⟨rfl, T, _, _, rfl, rfl, .inl upd_same, .cons (rv.ext E) (.cons (rw'.ext E) .nil)⟩⟩
theorem yl_zipL {K : PySem.W.Frag} {q q2 : Addr} {xs ys : List PV} {vs ws : List V} (h : LstAt M H q vs) (r : RepL p.K M H xs vs) (h2 : LstAt M H q2 ws) (r2 : RepL p.K M H ys ws) : Yl p true none (Itz K q q2) (zipP xs ys) M H := by
  intro M' H' S' k s _ i
  have h' := h.kp k
  have r' := r.kp k
  have h2' := h2.kp k
  have r2' := r2.kp k
  refine ⟨fun hi => ⟨vs, ws, h'.sq, h2'.sq, by rw [← r'.length, ← r2'.length]; rw [zipP_len] at hi; omega⟩, fun z hz => ?_⟩
  obtain ⟨x, y, hx, hy, rfl⟩ := zipP_get hz
  obtain ⟨v, e, rv⟩ := r'.get hx
  obtain ⟨w, e2, rw'⟩ := r2'.get hy
  refine ⟨⟨vs, ws, v, w, h'.sq, h2'.sq, e, e2⟩, fun v2 H2 ⟨T, v3, w3, e3, hT, e4, f1, f2⟩ => ?_⟩
  subst e3 e4
  have g1 := f1 vs h'.sq
  have g2 := f2 ws h2'.sq
  rw [e] at g1; cases g1
  rw [e2] at g2; cases g2
  have E : Ext M' H' M' (upd H' T (.tup [v, w])) := Ext.alloc s hT
  exact ⟨E, s.alloc hT, .inr ⟨rfl, T, _, _, rfl, rfl, .inl upd_same, .cons (rv.ext E) (.cons (rw'.ext E) .nil)⟩⟩
theorem enuP_get : ∀ {xs : List PV} {k i : Nat} {z : PV}, (enuP k xs)[i]? = some z → ∃ x, xs[i]? = some x ∧ z = .tup [.int ((k + i : Nat) : Int), x]
  | [], k, i, z, h => by simp [enuP] at h
  | x :: xs, k, 0, z, h => by simp [enuP] at h; exact ⟨x, rfl, by rw [← h]; rfl⟩
  | x :: xs, k, i + 1, z, h => by
    simp only [enuP, List.getElem?_cons_succ] at h
    obtain ⟨y, e, e2⟩ := enuP_get h
    exact ⟨y, by simpa using e, by rw [e2, show k + 1 + i = k + (i + 1) by omega]⟩
theorem enuP_len : ∀ (k : Nat) (xs : List PV), (enuP k xs).length = xs.length
  | k, [] => rfl
  | k, x :: xs => by simp [enuP, enuP_len (k + 1) xs]
theorem yl_enu {K : PySem.W.Frag} {q : Addr} {xs : List PV} {vs : List V} (h : LstAt M H q vs) (r : RepL p.K M H xs vs) : Yl p true none (Ite K q) (enuP 0 xs) M H := by
  intro M' H' S' k s _ i
  have h' := h.kp k
  have r' := r.kp k
  refine ⟨fun hi => ⟨vs, h'.sq, by rw [← r'.length]; rw [enuP_len] at hi; exact hi⟩, fun z hz => ?_⟩
  obtain ⟨x, hx, rfl⟩ := enuP_get hz
  obtain ⟨v, e, rv⟩ := r'.get hx
  refine ⟨⟨vs, v, h'.sq, e⟩, fun v2 H2 ⟨T, v3, e3, hT, e4, f1⟩ => ?_⟩
  subst e3 e4
  have g1 := f1 vs h'.sq
  rw [e] at g1; cases g1
  have E : Ext M' H' M' (upd H' T (.tup [.int (i : Nat), v])) := Ext.alloc s hT
  exact ⟨E, s.alloc hT, .inr ⟨rfl, T, _, _, rfl, rfl, .inl upd_same, .cons (by unfold Rep; simp) (.cons (rv.ext E) .nil)⟩⟩
mutual
theorem pvS_eq : ∀ (x y : PV), pvS x y = true → x = y
  | .non, y, h => by cases y <;> first | rfl | cases h
  | .bl a, y, h => by
    cases y with
    | bl b => rw [eq_of_beq (show (a == b) = true from h)]
    | _ => cases h
  | .int a, y, h => by
    cases y with
    | int b => rw [eq_of_beq (show (a == b) = true from h)]
    | _ => cases h
  | .str a, y, h => by
    cases y with
    | str b => rw [eq_of_beq (show (a == b) = true from h)]
    | _ => cases h
  | .tup a, y, h => by
    cases y with
    | tup b => rw [pvSL_eq a b h]
    | _ => cases h
  | .lst a, y, h => by
    cases y with
    | lst b => rw [pvSL_eq a b h]
    | _ => cases h
  | .ptr a, y, h => by
    cases y with
    | ptr b => rw [eq_of_beq (show (a == b) = true from h)]
    | _ => cases h
  | .scr a, y, h => by
    cases y with
    | scr b => rw [eq_of_beq (show (a == b) = true from h)]
    | _ => cases h
  | .exn a, y, h => by
    cases y with
    | exn b => rw [eq_of_beq (show (a == b) = true from h)]
    | _ => cases h
theorem pvSL_eq : ∀ (xs ys : List PV), pvSL xs ys = true → xs = ys
  | [], [], _ => rfl
  | [], _ :: _, h => by cases h
  | _ :: _, [], h => by cases h
  | x :: xs, y :: ys, h => by
    have h : (pvS x y && pvSL xs ys) = true := h
    rw [Bool.and_eq_true] at h
    rw [pvS_eq x y h.1, pvSL_eq xs ys h.2]
end
theorem gk_some {m : Nat} {xs : List PV} {S : Store} (h : gk (some (m, xs)) S = true) : S[m]? = some (.lst xs) := by
  have h : (match S[m]? with
    | some (MO.lst ys) => pvSL ys xs
    | _ => false) = true := h
  split at h
  · rename_i ys e
    rw [e, pvSL_eq ys xs h]
  · cases h
theorem yl_ptr {K : PySem.W.Frag} {m : Nat} {q : Addr} {xs : List PV} (h : M.l[m]? = some q) : Yl p tup (some (m, xs)) (Itl K q) xs M H := by
  intro M' H' S' k s hg i
  obtain ⟨vs, hv, r'⟩ := s.at_ (k.at_ _ _ h) (gk_some hg)
  refine ⟨fun hi => ⟨vs, .of hv, by rw [← r'.length]; exact hi⟩, fun x hx => ?_⟩
  obtain ⟨v, e, rv⟩ := r'.get hx
  refine ⟨⟨vs, v, .of hv, e⟩, fun v2 H2 ⟨e1, e2⟩ => ?_⟩
  subst e1
  have := e2 vs (.of hv)
  rw [e] at this
  cases this
  exact ⟨Ext.refl _ _, s, .inl rv⟩
def irngR (r : Ev) : EvI := fun ρ S => (r ρ S).bind fun x S1 => match x with
    | .int n => if n < 1000000 ∧ -1000000 < n then .ok ⟨rangeP n, none⟩ S1 else .bad
    | _ => .bad
def iseqR (r : Ev) : EvI := fun ρ S => (r ρ S).bind fun x S1 => match x with
    | .tup xs => .ok ⟨xs, none⟩ S1
    | .lst xs => .ok ⟨xs, none⟩ S1
    | .str xs => .ok ⟨xs.map fun c => .str [c], none⟩ S1
    | .ptr m => match S1[m]? with
      | some (.lst xs) => .ok ⟨xs, some (m, xs)⟩ S1
      | _ => .bad
    | _ => .bad
def izipR (r t : Ev) : EvI := fun ρ S => (r ρ S).bind fun x S1 => (t ρ S1).bind fun y S2 => match x, y with
    | .tup xs, .tup ys => .ok (⟨zipP xs ys, none⟩ : Wk) S2
    | .lst xs, .lst ys => .ok (⟨zipP xs ys, none⟩ : Wk) S2
    | _, _ => .bad
def ienuR (r : Ev) : EvI := fun ρ S => (r ρ S).bind fun x S1 => match x with
    | .lst xs => .ok ⟨enuP 0 xs, none⟩ S1
    | _ => .bad
theorem s_iseq {tg : Expr} (ha : PE X a (tD p ra W)) : PI X tg a (tDI p tup (iseqR ra) W) := by
  refine ⟨fun pins s σ H R I ⟨ρ, M, S, he, hs, q⟩ => ?_⟩
  refine one (rep := repI p tup) (k := fun _ x S1 => match x with
    | .tup xs => .ok ⟨xs, none⟩ S1
    | .lst xs => .ok ⟨xs, none⟩ S1
    | .str xs => .ok ⟨xs.map fun c => PV.str [c], none⟩ S1
    | .ptr m => match S1[m]? with
      | some (.lst xs) => .ok ⟨xs, some (m, xs)⟩ S1
      | _ => .bad
    | _ => .bad) ha ⟨I, he, hs⟩ q fun u s1 x v M1 S1 H1 e1 A1 rp rv q1 => ?_
  have I1 := A1.inv
  have fp1 : ∀ b ∈ [s1.heap.objs.size], FpOk X pins H1 b := fun b hb => by
    have e : b = s1.heap.objs.size := by simpa using hb
    subst e
    exact I1.fpOk (Nat.le_refl _) (I1.hok.fresh (Nat.le_refl _))
  cases x with
  | tup xs =>
    unfold Rep at rp
    obtain ⟨q, vs, rfl, h, r⟩ := rp
    cases rv
    obtain ⟨its, rv, p', hz⟩ := I1.tuple (h.sq (K := X.K))
    refine wpAny_pyIter_tuple (show s1.heap.IsTuple q its.toArray from p') ?_
    exact ⟨s1.heap.objs.size, [s1.heap.objs.size], _, _, H1, rfl, I1.kept (t' := s1.toks) fun b o e => Heap.get?_push_of_some _ e, turn_tuple q _, ⟨_, Heap.get?_push_size _ rfl, rfl, rfl⟩, fp1, q1.done A1.ok ⟨by rw [r.length]; exact hz, yl_tup h r⟩⟩
  | lst xs =>
    unfold Rep at rp
    obtain ⟨q, vs, rfl, h, r⟩ := rp
    cases rv
    obtain ⟨its, rv, p', hz⟩ := I1.list (h.sq (K := X.K))
    refine wpAny_pyIter_list p'.isList ?_
    exact ⟨s1.heap.objs.size, [s1.heap.objs.size], _, _, H1, rfl, I1.kept (t' := s1.toks) fun b o e => Heap.get?_push_of_some _ e, turn_list q _, ⟨_, Heap.get?_push_size _ rfl, rfl, rfl⟩, fp1, q1.done A1.ok ⟨by rw [r.length]; exact hz, yl_lst h r⟩⟩
  | str z =>
    unfold Rep at rp
    obtain ⟨rfl, o⟩ := rp
    obtain ⟨t, rfl⟩ := rv
    have qd := Post.done (w := Its (SS z)) q1 A1.ok ⟨by
      rw [List.length_map, ← SL_eq]
      have o2 := o
      unfold okS at o2
      rw [Bool.and_eq_true] at o2
      exact of_decide_eq_true o2.2, yl_str o⟩
    cases hb : (SS z).cps.all (· < 128)
    · exact wpAny_pyIter_wide hb (pi_one (tk := s1.toks) I1 _ (turn_str _ (SS z) t "str_iterator" (.inr rfl)) ⟨_, Heap.get?_push_size _ rfl, rfl, rfl⟩ qd)
    · exact wpAny_pyIter_ascii hb (pi_one (tk := s1.toks) I1 _ (turn_str _ (SS z) t "str_ascii_iterator" (.inl rfl)) ⟨_, Heap.get?_push_size _ rfl, rfl, rfl⟩ qd)
  | ptr m =>
    unfold Rep at rp
    obtain ⟨q, rfl, hm⟩ := rp
    obtain ⟨xs, hS⟩ : ∃ xs, S1[m]? = some (.lst xs) := by
      have hl : m < S1.length := by rw [← A1.ok.len]; exact (List.getElem?_eq_some_iff.mp hm).1
      cases e : S1[m]? with
      | none => rw [List.getElem?_eq_none_iff] at e; omega
      | some o => cases o with
        | lst xs => exact ⟨xs, rfl⟩
        | dis kvs => simp only [e] at q1; exact (show False from q1).elim
    obtain ⟨vs, hv, rl⟩ := A1.ok.at_ hm hS
    simp only [hS] at q1
    cases rv
    obtain ⟨its, rv, p', hz⟩ := I1.list (xs := vs) (.of hv)
    refine wpAny_pyIter_list p'.isList ?_
    exact ⟨s1.heap.objs.size, [s1.heap.objs.size], _, _, H1, rfl, I1.kept (t' := s1.toks) fun b o e => Heap.get?_push_of_some _ e, turn_list q _, ⟨_, Heap.get?_push_size _ rfl, rfl, rfl⟩, fp1, q1.done A1.ok ⟨by rw [rl.length]; exact hz, yl_ptr hm⟩⟩
  | _ => exact (show False from q1).elim
/-- the one argument, the two, ahead of a built-in walk -/
theorem tDA1 {α β : Type} {rep : Ms → Hp → α → β → Prop} {k : PV → Store → R α} {σ : L2.St} {ρ : Env} {Q : β → Hp → Prop} (he : EnvOk p.K M H ρ σ) (hs : SOk p M S H) (q : Post p rep ((ra ρ S).bind k) M H Q (wAt W σ)) :
    tDA p (consR ra fun _ S => .ok [] S) W σ H fun vs H1 => ∃ x v M1 S1, vs = [v] ∧ SOk p M1 S1 H1 ∧ Rep p.K M1 H1 x v ∧ Post p rep (k x S1) M1 H1 Q (wAt W σ) := by
  refine ⟨ρ, M, S, he, hs, ?_⟩
  have q' : Post p rep ((consR ra (fun _ S => .ok [] S) ρ S).bind fun xs S1 => match xs with | [x] => k x S1 | _ => .bad) M H Q (wAt W σ) := by
    unfold consR
    rw [bind_assoc]
    exact q
  refine (Post.bind (rep := RepL p.K) q').mono (fun vs H1 ⟨M1, S1, xs, e1, ok1, r1, q1⟩ => ?_) fun _ _ _ h => h
  match xs, r1, q1 with
  | [x], r1, q1 =>
    obtain ⟨w, ws, rfl, r, t⟩ := r1.cons_inv
    rw [t.nil_inv]
    exact ⟨x, w, M1, S1, rfl, ok1, r, q1⟩
  | [], _, q1 => exact q1.elim
  | _ :: _ :: _, _, q1 => exact q1.elim
theorem tDA2 {α β : Type} {rep : Ms → Hp → α → β → Prop} {k : PV → PV → Store → R α} {σ : L2.St} {ρ : Env} {Q : β → Hp → Prop} (he : EnvOk p.K M H ρ σ) (hs : SOk p M S H) (q : Post p rep ((ra ρ S).bind fun x S1 => (rb ρ S1).bind fun y S2 => k x y S2) M H Q (wAt W σ)) :
    tDA p (consR ra (consR rb fun _ S => .ok [] S)) W σ H fun vs H1 => ∃ x v y w M1 S1, vs = [v, w] ∧ SOk p M1 S1 H1 ∧ Rep p.K M1 H1 x v ∧ Rep p.K M1 H1 y w ∧ Post p rep (k x y S1) M1 H1 Q (wAt W σ) := by
  refine ⟨ρ, M, S, he, hs, ?_⟩
  have q' : Post p rep ((consR ra (consR rb fun _ S => .ok [] S) ρ S).bind fun xs S1 => match xs with | [x, y] => k x y S1 | _ => .bad) M H Q (wAt W σ) := by
    unfold consR
    simp only [bind_assoc, bind_ok]
    exact q
  refine (Post.bind (rep := RepL p.K) q').mono (fun vs H1 ⟨M1, S1, xs, e1, ok1, r1, q1⟩ => ?_) fun _ _ _ h => h
  match xs, r1, q1 with
  | [x, y], r1, q1 =>
    obtain ⟨w, ws, rfl, r, t⟩ := r1.cons_inv
    obtain ⟨w2, ws2, rfl, r2, t2⟩ := t.cons_inv
    rw [t2.nil_inv]
    exact ⟨x, w, y, w2, M1, S1, rfl, ok1, r, r2, q1⟩
  | [], _, q1 => exact q1.elim
  | [_], _, q1 => exact q1.elim
  | _ :: _ :: _ :: _, _, q1 => exact q1.elim
theorem star1 (h : notStar a = true) (env : PySem.Env) : starEach [a] env = [(false, eval a env)] := star_not h [] env
theorem s_irng {tg : Expr} (hg : Gl X "range") (hm : X.mg "range" = none) (hn : notStar a = true) (ha : PE X a (tD p ra W)) : PI X tg (.Call (.Name "range" p2) [a] [] pos) (tDI p tup (irngR ra) W) := by
  refine piWeak (pi_range1 hg hm (s_cons hn ha s_nil) (star1 hn _)) fun σ H R ⟨ρ, M, S, he, hs, q⟩ => ?_
  obtain ⟨ρ', M', S', he', hs', q'⟩ := tDA1 he hs q
  refine ⟨ρ', M', S', he', hs', q'.mono (fun vs H1 ⟨x, v, M1, S1, e, ok1, r1, q1⟩ => ?_) fun _ _ _ h => h⟩
  cases x with
  | int n =>
    unfold Rep at r1
    subst r1
    by_cases hl : n < 1000000 ∧ -1000000 < n
    · simp only [if_pos hl] at q1
      refine ⟨n, e, by omega, by omega, q1.done ok1 ⟨?_, yl_rng⟩⟩
      rw [rangeP_len, ← SL_eq, SL]
      omega
    · simp only [if_neg hl] at q1
      exact q1.elim
  | _ => exact (show False from q1).elim
/-- the sequences' lengths are told -/
def Szs (K : PySem.W.Frag) (H : Hp) : Prop := (∀ a xs, SqT K H a xs → xs.length ≤ sizeLine) ∧ ∀ a xs, SqL K H a xs → xs.length ≤ sizeLine
theorem paSz {es : List Expr} {ta : TA} (h : PA X es ta) : PA X es (fun σ H Q => ta σ H fun vs H1 => Szs X.K H1 → Q vs H1) :=
  ⟨fun ps pins s σ H Q I w => thn (h.run ps pins s σ H _ I w) fun us s1 ⟨vs, H1, I1, r1, q⟩ => ⟨vs, H1, I1, r1, q ⟨fun a xs hx => let ⟨_, _, _, hz⟩ := I1.tuple hx; hz, fun a xs hx => let ⟨_, _, _, hz⟩ := I1.list hx; hz⟩⟩⟩
theorem s_ienu {elts : List Expr} {kk : Nat} {tpos : Pos} (hg : Gl X "enumerate") (hm : X.mg "enumerate" = none) (hn : notStar a = true) (ha : PE X a (tD p ra W)) : PI X (.Tuple elts kk tpos) (.Call (.Name "enumerate" p2) [a] [] pos) (tDI p true (ienuR ra) W) := by
  refine piWeak (pi_enum hg hm (paSz (s_cons hn ha s_nil)) (star1 hn _)) fun σ H R ⟨ρ, M, S, he, hs, q⟩ => ?_
  obtain ⟨ρ', M', S', he', hs', q'⟩ := tDA1 he hs q
  refine ⟨ρ', M', S', he', hs', q'.mono (fun vs H1 ⟨x, v, M1, S1, e, ok1, r1, q1⟩ sz => ?_) fun _ _ _ h => h⟩
  cases x with
  | lst xs =>
    unfold Rep at r1
    obtain ⟨q, ws, rfl, h, r⟩ := r1
    exact ⟨q, ws, e, h.sq, q1.done ok1 ⟨by rw [enuP_len, r.length]; exact sz.2 q ws h.sq, yl_enu h r⟩⟩
  | _ => exact (show False from q1).elim
theorem s_izip {elts : List Expr} {kk : Nat} {tpos : Pos} (hg : Gl X "zip") (hm : X.mg "zip" = none) (hn : notStar a = true) (hn2 : notStar b = true) (ha : PE X a (tD p ra W)) (hb : PE X b (tD p rb W)) : PI X (.Tuple elts kk tpos) (.Call (.Name "zip" p2) [a, b] [] pos) (tDI p true (izipR ra rb) W) := by
  refine piWeak (RZ.pi_zipA hg hm (paSz (s_cons hn ha (s_cons hn2 hb s_nil))) (star_not hn _ _) (any_star (by simp [hn2]))) fun σ H R' ⟨ρ, M, S, he, hs, q⟩ => ?_
  obtain ⟨ρ', M', S', he', hs', q'⟩ := tDA2 (k := fun x y S2 => match x, y with
    | .tup xs, .tup ys => .ok (⟨zipP xs ys, none⟩ : Wk) S2
    | .lst xs, .lst ys => .ok (⟨zipP xs ys, none⟩ : Wk) S2
    | _, _ => .bad) he hs q
  refine ⟨ρ', M', S', he', hs', q'.mono (fun vs H1 ⟨x, v, y, w, M1, S1, e, ok1, r1, r2, q1⟩ sz => ?_) fun _ _ _ h => h⟩
  have no : ∀ (P : Prop), Post p (repI p true) (R.bad : R Wk) M1 H1 R' (wAt W σ) → P := fun P h => (show False from h).elim
  cases x with
  | tup xs =>
    cases y with
    | tup ys =>
      unfold Rep at r1 r2
      obtain ⟨q, ws, rfl, h, r⟩ := r1
      obtain ⟨q2, ws2, rfl, h2, r2⟩ := r2
      exact ⟨q, q2, ws, ws2, e, .inr ⟨h.sq, h2.sq, q1.done ok1 ⟨by rw [zipP_len]; have := sz.1 q ws h.sq; rw [← r.length] at this; omega, yl_zipT h r h2 r2⟩⟩⟩
    | _ => exact no _ q1
  | lst xs =>
    cases y with
    | lst ys =>
      unfold Rep at r1 r2
      obtain ⟨q, ws, rfl, h, r⟩ := r1
      obtain ⟨q2, ws2, rfl, h2, r2⟩ := r2
      exact ⟨q, q2, ws, ws2, e, .inl ⟨h.sq, h2.sq, q1.done ok1 ⟨by rw [zipP_len]; have := sz.2 q ws h.sq; rw [← r.length] at this; omega, yl_zipL h r h2 r2⟩⟩⟩
    | _ => exact no _ q1
  | _ => exact no _ q1
end G
set_option maxHeartbeats 1000000
namespace G
open PySem PySem.Spec PyProof.Rows L2
variable {p : Pm} {X : Cx} {W : WX} {M : Ms} {H : Hp} {S : Store} {a b : Expr} {ra rb : Ev} {pos p2 : Pos} {tup : Bool}
theorem wipe_get (σ : L2.St) (i : Nat) : ∀ vs : List Nat, (wipe σ vs)[i]? = if i ∈ vs then (if i < σ.length then some none else none) else σ[i]?
  | [] => by simp [wipe]
  | v :: vs => by
    unfold wipe
    by_cases h : v = i
    · subst h
      rw [if_pos List.mem_cons_self]
      by_cases hl : v < σ.length
      · rw [if_pos hl, List.getElem?_set_self (by rw [wipe_length]; exact hl)]
      · rw [if_neg hl, List.getElem?_eq_none (by rw [List.length_set, wipe_length]; omega)]
    · rw [List.getElem?_set_ne h, wipe_get σ i vs]
      by_cases hm : i ∈ vs
      · rw [if_pos hm, if_pos (List.mem_cons_of_mem _ hm)]
      · rw [if_neg hm, if_neg (fun z => (List.mem_cons.mp z).elim (fun e => h e.symm) hm)]
theorem wipe_of {σ σ' : L2.St} {is vs : List Nat} (h : wipe σ' is = wipe σ is) (hm : ∀ i ∈ is, i ∈ vs) : wipe σ' vs = wipe σ vs := by
  have hl : σ'.length = σ.length := by rw [← wipe_length σ' is, h, wipe_length]
  refine List.ext_getElem? fun i => ?_
  rw [wipe_get, wipe_get]
  by_cases hi : i ∈ vs
  · rw [if_pos hi, if_pos hi, hl]
  · rw [if_neg hi, if_neg hi]
    have h2 : i ∉ is := fun z => hi (hm i z)
    have := congrArg (·[i]?) h
    simp only [wipe_get, if_neg h2] at this
    exact this
theorem wipe_wipe (σ : L2.St) (vs : List Nat) : wipe (wipe σ vs) vs = wipe σ vs := by
  refine List.ext_getElem? fun i => ?_
  rw [wipe_get, wipe_length, wipe_get]
  by_cases hi : i ∈ vs
  · rw [if_pos hi, if_pos hi]
  · rw [if_neg hi, if_neg hi]
theorem wipeE_len (ρ : Env) : ∀ vs : List Nat, (wipeE ρ vs).length = ρ.length
  | [] => rfl
  | v :: vs => by unfold wipeE; rw [List.length_set, wipeE_len ρ vs]
theorem wipeE_some {ρ : Env} {i : Nat} {x : PV} : ∀ {vs : List Nat}, (wipeE ρ vs)[i]? = some (some x) → ρ[i]? = some (some x) ∧ i ∉ vs
  | [], h => ⟨h, by simp⟩
  | v :: vs, h => by
    unfold wipeE at h
    by_cases e : v = i
    · subst e
      by_cases hl : v < (wipeE ρ vs).length
      · rw [List.getElem?_set_self hl] at h; cases h
      · rw [List.getElem?_eq_none (by rw [List.length_set]; omega)] at h; cases h
    · rw [List.getElem?_set_ne e] at h
      obtain ⟨h1, h2⟩ := wipeE_some h
      exact ⟨h1, fun z => (List.mem_cons.mp z).elim (fun q => e q.symm) h2⟩
theorem EnvOk.wipe {K : PySem.W.Frag} {ρ : Env} {σ : L2.St} (h : EnvOk K M H ρ σ) (vs : List Nat) : EnvOk K M H (wipeE ρ vs) (L2.wipe σ vs) := by
  refine ⟨by rw [wipeE_len, wipe_length]; exact h.1, fun i x e => ?_⟩
  obtain ⟨e1, e2⟩ := wipeE_some e
  obtain ⟨w, e3, r⟩ := h.2 i x e1
  exact ⟨w, by rw [wipe_get, if_neg e2]; exact e3, r⟩
theorem EnvOk.kp {K : PySem.W.Frag} {ρ : Env} {σ : L2.St} {M' : Ms} {H' : Hp} (h : EnvOk K M H ρ σ) (k : Kp M H M' H') : EnvOk K M' H' ρ σ :=
  ⟨h.1, fun i v q => let ⟨w, a, b⟩ := h.2 i v q; ⟨w, a, b.kp k⟩⟩
def setAllV : List Nat → List V → L2.St → L2.St
  | i :: is, x :: xs, σ => setAllV is xs (σ.set i (some x))
  | _, _, σ => σ
theorem EnvOk.setAll {K : PySem.W.Frag} : ∀ {is : List Nat} {xs : List PV} {vs : List V} {ρ : Env} {σ : L2.St}, EnvOk K M H ρ σ → RepL K M H xs vs → EnvOk K M H (setAll is xs ρ) (setAllV is vs σ)
  | [], xs, vs, ρ, σ, h, r => by unfold G.setAll setAllV; exact h
  | i :: is, [], vs, ρ, σ, h, r => by rw [r.nil_inv]; unfold G.setAll setAllV; exact h
  | i :: is, x :: xs, vs, ρ, σ, h, r => by
    obtain ⟨w, ws, rfl, r1, r2⟩ := r.cons_inv
    unfold G.setAll setAllV
    exact EnvOk.setAll (h.set r1 i) r2
theorem setAllV_len : ∀ (is : List Nat) (vs : List V) (σ : L2.St), (setAllV is vs σ).length = σ.length
  | [], vs, σ => by unfold setAllV; rfl
  | i :: is, [], σ => by unfold setAllV; rfl
  | i :: is, v :: vs, σ => by unfold setAllV; rw [setAllV_len is vs, List.length_set]
theorem setAllV_out {i : Nat} : ∀ (is : List Nat) (vs : List V) (σ : L2.St), i ∉ is → (setAllV is vs σ)[i]? = σ[i]?
  | [], vs, σ, h => by unfold setAllV; rfl
  | j :: is, [], σ, h => by unfold setAllV; rfl
  | j :: is, v :: vs, σ, h => by
    unfold setAllV
    rw [setAllV_out is vs _ fun z => h (List.mem_cons_of_mem _ z), List.getElem?_set_ne fun e => h (by rw [e]; exact List.mem_cons_self)]
theorem setAllV_wipe (is : List Nat) (vs : List V) (σ : L2.St) : wipe (setAllV is vs σ) is = wipe σ is := by
  refine List.ext_getElem? fun i => ?_
  rw [wipe_get, wipe_get, setAllV_len]
  by_cases hi : i ∈ is
  · rw [if_pos hi, if_pos hi]
  · rw [if_neg hi, if_neg hi, setAllV_out is vs σ hi]
def tgD (p : Pm) (tup : Bool) (is : List Nat) : TG := fun v σ H Q => ∃ M ρ x ρ', EnvOk p.K M H ρ σ ∧ RepI tup p.K M H x v ∧ tgSet is x ρ = some ρ' ∧ ∀ σ', EnvOk p.K M H ρ' σ' → wipe σ' is = wipe σ is → Q σ' H
/-- plain names with their slots -/
inductive NamesAt (X : Cx) : List Expr → List Nat → Prop where
  | nil : NamesAt X [] []
  | cons {x : Str} {q : Pos} {i : Nat} {es : List Expr} {is : List Nat} (hi : X.N[i]? = some x) (hx : Loc X.env.scope x) (hf : X.fn x = true ∨ X.env.scope.names.lookup x = some .local) (r : NamesAt X es is) : NamesAt X (.Name x q :: es) (i :: is)
theorem s_tg1 {x : Str} {i : Nat} (hN : X.N.Nodup) (hi : X.N[i]? = some x) (hx : Loc X.env.scope x) (hf : X.fn x = true ∨ X.env.scope.names.lookup x = some .local) : PG X (.Name x pos) (tgD p false [i]) := by
  refine ⟨fun pins s σ H v u Q I r ⟨M, ρ, y, ρ', he, hr, hs, q⟩ => ?_⟩
  refine (pg_name hN hi hx hf).run pins s σ H v u Q I r ?_
  rcases hr with hr | ⟨h, _⟩
  · have hs : some (ρ.set i (some y)) = some ρ' := hs
    cases hs
    exact q _ (he.set hr i) (setAllV_wipe [i] [v] σ)
  · cases h
def gNames : List Nat → TGs
  | [] => gNil
  | i :: is => gCons (gName i) (gNames is)
theorem gNames_of : ∀ {is : List Nat} {vs : List V} {σ : L2.St} {H : Hp} {Q : L2.St → Hp → Prop}, vs.length = is.length → Q (setAllV is vs σ) H → gNames is vs σ H Q
  | [], [], σ, H, Q, h, q => ⟨rfl, by unfold setAllV at q; exact q⟩
  | [], _ :: _, σ, H, Q, h, q => by cases h
  | i :: is, [], σ, H, Q, h, q => by cases h
  | i :: is, v :: vs, σ, H, Q, h, q => ⟨v, vs, rfl, gNames_of (Nat.succ.inj h) (by unfold setAllV at q; exact q)⟩
theorem NamesAt.pgs (hN : X.N.Nodup) : ∀ {es : List Expr} {is : List Nat}, NamesAt X es is → PGs X es (gNames is)
  | _, _, .nil => pgs_nil
  | _, _, .cons hi hx hf r => pgs_cons (pg_name hN hi hx hf) (r.pgs hN)
theorem NamesAt.each : ∀ {es : List Expr} {is : List Nat}, NamesAt X es is → (assignEach es X.env).length = is.length ∧ (assignEach es X.env).findIdx? (·.1) = none
  | _, _, .nil => ⟨rfl, rfl⟩
  | _, _, .cons (x := x) (q := q) (es := es) (is := is) hi hx hf r => by
    obtain ⟨h1, h2⟩ := r.each
    have e : assignEach (.Name x q :: es) X.env = (false, assign (.Name x q) X.env) :: assignEach es X.env := rfl
    rw [e]
    exact ⟨by rw [List.length_cons, List.length_cons, h1], by rw [List.findIdx?_cons, h2]; rfl⟩
theorem tgSet_two {is : List Nat} {y : PV} {ρ ρ' : Env} (hl : 2 ≤ is.length) (hs : tgSet is y ρ = some ρ') : ∃ xs, y = .tup xs ∧ xs.length = is.length ∧ ρ' = setAll is xs ρ := by
  rcases is with _ | ⟨i, _ | ⟨j, is⟩⟩
  · simp at hl
  · simp at hl
  · cases y with
    | tup xs =>
      have hs : (if xs.length = (i :: j :: is).length then some (setAll (i :: j :: is) xs ρ) else none) = some ρ' := hs
      by_cases z : xs.length = (i :: j :: is).length
      · rw [if_pos z] at hs
        exact ⟨xs, rfl, z, (Option.some.inj hs).symm⟩
      · rw [if_neg z] at hs; cases hs
    | _ => exact absurd hs (fun z => nomatch z)
theorem s_tgN {es : List Expr} {is : List Nat} {k : Nat} (hc : X.calm = true) (hN : X.N.Nodup) (hn : NamesAt X es is) (hl : 2 ≤ is.length) : PG X (.Tuple es k pos) (tgD p tup is) := by
  obtain ⟨h1, h2⟩ := hn.each
  refine ⟨fun pins s σ H v u Q I r ⟨M, ρ, y, ρ', he, hr, hs, q⟩ => ?_⟩
  refine (pg_tup hc (hn.pgs hN) h1 h2).run pins s σ H v u Q I r ?_
  obtain ⟨xs, rfl, hlx, rfl⟩ := tgSet_two hl hs
  have fin : ∀ {q' : Addr} {vs : List V}, v = .ref q' → SqT X.K H q' vs → RepL p.K M H xs vs → gTup X.K is.length (gNames is) v σ H Q := fun {q' vs} e hq rl =>
    ⟨q', vs, e, hq, by rw [← rl.length]; exact hlx, gNames_of (by rw [← rl.length]; exact hlx) (q _ (he.setAll rl) (setAllV_wipe _ _ _))⟩
  rcases hr with hr | ⟨_, q', xs', vs, e, e2, hq, rl⟩
  · unfold Rep at hr
    obtain ⟨q', vs, e, ht, rl⟩ := hr
    exact fin e ht.sq rl
  · cases e
    exact fin e2 (.inl hq) rl
end G
set_option maxHeartbeats 1000000
namespace G
open PySem PySem.Spec PyProof.Rows L2
variable {p : Pm} {X : Cx} {W : WX} {M : Ms} {H : Hp} {S : Store} {a b : Expr} {ra rb : Ev} {pos p2 : Pos} {tup : Bool}
abbrev noW : WX := fun _ _ _ _ => False
variable {g : Option (Nat × List PV)}
theorem lcGo_nil {tst elt : Ev} {tg : List Nat} {ρ : Env} {vs : List PV} {S2 : Store} (h : lcGo tst elt tg ρ g [] S = .ok vs S2) : gk g S = true ∧ vs = [] ∧ S2 = S := by
  unfold lcGo at h
  split at h
  · rename_i hg
    cases h
    exact ⟨hg, rfl, rfl⟩
  · cases h
theorem lcGo_cons {tst elt : Ev} {tg : List Nat} {ρ : Env} {x : PV} {xs vs : List PV} {S2 : Store} (h : lcGo tst elt tg ρ g (x :: xs) S = .ok vs S2) :
    gk g S = true ∧ ∃ ρ1, tgSet tg x ρ = some ρ1 ∧ ((∃ S1 v S' vs', (tst ρ1 S).bind asB = .ok true S1 ∧ elt ρ1 S1 = .ok v S' ∧ lcGo tst elt tg ρ g xs S' = .ok vs' S2 ∧ vs = v :: vs') ∨ ∃ S1, (tst ρ1 S).bind asB = .ok false S1 ∧ lcGo tst elt tg ρ g xs S1 = .ok vs S2) := by
  unfold lcGo at h
  split at h
  · rename_i hg
    refine ⟨hg, ?_⟩
    cases e : tgSet tg x ρ with
    | none => rw [e] at h; cases h
    | some ρ1 =>
      rw [e] at h
      refine ⟨ρ1, rfl, ?_⟩
      simp only at h
      cases e2 : (tst ρ1 S).bind asB with
      | ok b S1 =>
        rw [e2] at h
        cases b with
        | true =>
          simp only at h
          cases e3 : elt ρ1 S1 with
          | ok v S' =>
            rw [e3] at h
            simp only at h
            cases e4 : lcGo tst elt tg ρ g xs S' with
            | ok vs' S3 =>
              rw [e4] at h
              cases h
              exact .inl ⟨S1, v, S', vs', rfl, e3, e4, rfl⟩
            | exc c w S3 => rw [e4] at h; cases h
            | bad => rw [e4] at h; cases h
          | exc c w S3 => rw [e3] at h; cases h
          | bad => rw [e3] at h; cases h
        | false => exact .inr ⟨S1, rfl, h⟩
      | exc c w S3 => rw [e2] at h; cases h
      | bad => rw [e2] at h; cases h
  · cases h
theorem lcGo_len {tst elt : Ev} {tg : List Nat} {ρ : Env} : ∀ {xs vs : List PV} {S S2 : Store}, lcGo tst elt tg ρ g xs S = .ok vs S2 → vs.length ≤ xs.length
  | [], vs, S, S2, h => by rw [(lcGo_nil h).2.1]; exact Nat.le_refl _
  | x :: xs, vs, S, S2, h => by
    obtain ⟨_, ρ1, _, h1 | h1⟩ := lcGo_cons h
    · obtain ⟨S1, v, S', vs', _, _, h2, rfl⟩ := h1
      exact Nat.succ_le_succ (lcGo_len h2)
    · obtain ⟨S1, _, h2⟩ := h1
      exact Nat.le_succ_of_le (lcGo_len h2)
theorem lc2Go_cons {inner : Env → Store → R (List PV)} {tg : List Nat} {ρ : Env} {x : PV} {xs vs : List PV} {S2 : Store} (h : lc2Go inner tg ρ g (x :: xs) S = .ok vs S2) :
    gk g S = true ∧ ∃ ρ1 us S1 ws, tgSet tg x ρ = some ρ1 ∧ inner ρ1 S = .ok us S1 ∧ lc2Go inner tg ρ g xs S1 = .ok ws S2 ∧ vs = us ++ ws := by
  unfold lc2Go at h
  split at h
  · rename_i hg
    refine ⟨hg, ?_⟩
    cases e : tgSet tg x ρ with
    | none => rw [e] at h; cases h
    | some ρ1 =>
      rw [e] at h
      simp only at h
      cases e2 : inner ρ1 S with
      | ok us S1 =>
        rw [e2] at h
        simp only at h
        cases e3 : lc2Go inner tg ρ g xs S1 with
        | ok ws S3 =>
          rw [e3] at h
          cases h
          exact ⟨ρ1, us, S1, ws, rfl, e2, e3, rfl⟩
        | exc c w S3 => rw [e3] at h; cases h
        | bad => rw [e3] at h; cases h
      | exc c w S3 => rw [e2] at h; cases h
      | bad => rw [e2] at h; cases h
  · cases h
theorem lc2Go_nil {inner : Env → Store → R (List PV)} {tg : List Nat} {ρ : Env} {vs : List PV} {S2 : Store} (h : lc2Go inner tg ρ g [] S = .ok vs S2) : gk g S = true ∧ vs = [] ∧ S2 = S := by
  unfold lc2Go at h
  split at h
  · rename_i hg
    cases h
    exact ⟨hg, rfl, rfl⟩
  · cases h
theorem drop_cons {α : Type} {xs : List α} {j : Nat} {x : α} (h : xs[j]? = some x) : xs.drop j = x :: xs.drop (j + 1) := by
  obtain ⟨hl, e⟩ := List.getElem?_eq_some_iff.mp h
  rw [List.drop_eq_getElem_cons hl, e]
/-- the loop of a clause, from a state of the list D on -/
theorem loopC {J : It} {xs ap zs : List PV} {D : Addr} {M1 Mz : Ms} {H1 Hc : Hp} {is own : List Nat} {tst elt : Ev} {ρ0 : Env} {σ : L2.St} {S0 S2 : Store} {Nx : Hp → Prop} (hsub : ∀ i ∈ is, i ∈ own) (c : CIn p D M1 H1 Mz Hc S0 ap)
    (he : EnvOk p.K Mz Hc ρ0 (wipe σ own)) (y : Yl p tup g J xs Mz Hc) (hgo : lcGo tst elt is ρ0 g xs S0 = .ok zs S2) (hl : ap.length + zs.length ≤ sizeLine) (fin : ∀ M' H', Kp Mz Hc M' H' → CIn p D M1 H1 M' H' S2 (ap ++ zs) → Nx H') :
    ∃ W1 : Nat → Nat → Hp → Prop, (∃ m, W1 0 m Hc) ∧ ∀ j k H, W1 j k H → (J.stop j H ∧ Nx H) ∨ (J.go j H ∧ ∃ Nx1 : Hp → Prop, (∀ H', Nx1 H' → ∃ k', k' < k ∧ W1 (j + 1) k' H') ∧ ∀ x H', J.yld j H x H' →
      tgD p tup is x (wipe σ own) H' fun σ3 H5 => wipe σ3 own = wipe σ own ∧ tDT p tst noW σ3 H5 fun b H6 => if b = true then tD p elt noW σ3 H6 fun y H7 => ∃ acc, H7 D = some (.lst acc) ∧ acc.length < sizeLine ∧ Nx1 (upd H7 D (.lst (acc ++ [y]))) else Nx1 H6) := by
  refine ⟨fun j k H => j + k = xs.length ∧ ∃ M' S' ap' zs', Kp Mz Hc M' H ∧ CIn p D M1 H1 M' H S' ap' ∧ lcGo tst elt is ρ0 g (xs.drop j) S' = .ok zs' S2 ∧ ap' ++ zs' = ap ++ zs, ⟨xs.length, Nat.zero_add _, Mz, S0, ap, zs, Kp.refl _ _, c, hgo, rfl⟩, ?_⟩
  rintro j k H ⟨hjk, M', S', ap', zs', kp, c', hgo', hap⟩
  cases hx : xs[j]? with
  | none =>
    have hj : xs.length ≤ j := List.getElem?_eq_none_iff.mp hx
    rw [List.drop_eq_nil_of_le hj] at hgo'
    obtain ⟨hgk, e1, e2⟩ := lcGo_nil hgo'
    have hst := y M' H S' kp c'.ok hgk j
    refine .inl ⟨hst.1 hj, ?_⟩
    subst e1 e2
    rw [List.append_nil] at hap
    subst hap
    exact fin M' H kp c'
  | some x =>
    have hj : j < xs.length := (List.getElem?_eq_some_iff.mp hx).1
    rw [drop_cons hx] at hgo'
    obtain ⟨hgk, ρ1, ht, hcase⟩ := lcGo_cons hgo'
    have hst := y M' H S' kp c'.ok hgk j
    obtain ⟨hg, hy⟩ := hst.2 x hx
    refine .inr ⟨hg, _, fun H' q => ⟨k - 1, by omega, q⟩, fun v H' hyv => ?_⟩
    obtain ⟨e1, ok1, ri⟩ := hy v H' hyv
    have c1 := c'.ext e1 ok1
    refine ⟨M', ρ0, x, ρ1, he.kp (kp.trans e1.kpp), ri, ht, fun σ3 he3 hw3 => ⟨by rw [wipe_of hw3 hsub, wipe_wipe], ?_⟩⟩
    refine ⟨ρ1, M', S', he3, ok1, ?_⟩
    refine Post.asT ?_
    rcases hcase with ⟨S1, v', S3, vs', h1, h2, h3, rfl⟩ | ⟨S1, h1, h3⟩
    · rw [h1]
      intro M2 H2 b e2 ok2 rb
      have rb : true = b := rb
      subst rb
      rw [if_pos rfl]
      refine ⟨ρ1, M2, S1, he3.ext e2, ok2, ?_⟩
      rw [h2]
      intro M3 H3 w e3 ok3 r3
      have c3 := (c1.ext e2 ok2).ext e3 ok3
      obtain ⟨av, hD, hlen, c4⟩ := c3.put r3
      refine ⟨av, hD, ?_, by omega, M3, S3, ap' ++ [v'], vs', (((kp.trans e1.kpp).trans e2.kpp).trans e3.kpp).trans (Kp.put (.inr c3.mem)), c4, h3, by rw [List.append_assoc]; exact hap⟩
      have := congrArg List.length hap
      simp only [List.length_append, List.length_cons] at this
      omega
    · rw [h1]
      intro M2 H2 b e2 ok2 rb
      have rb : false = b := rb
      subst rb
      rw [if_neg Bool.false_ne_true]
      exact ⟨by omega, M2, S1, ap', zs', (kp.trans e1.kpp).trans e2.kpp, c1.ext e2 ok2, h3, hap⟩
def comR (rt re : Ev) (is : List Nat) (ri : EvI) (own : List Nat) : Ev := fun ρ S => (ri ρ S).bind fun w S1 => match lcGo rt re is (wipeE ρ own) w.g w.xs S1 with
    | .ok vs S2 => .ok (.lst vs) S2
    | _ => .bad
theorem lcTD {rt re : Ev} {is own : List Nat} {ri : EvI} (hsub : ∀ i ∈ is, i ∈ own) {σ : L2.St} {Q : VK} (h : tD p (comR rt re is ri own) W σ H Q) : tLc (tDI p tup ri W) (tgD p tup is) (tDT p rt noW) (tD p re noW) own σ H Q := by
  obtain ⟨ρ, M, S, he, hs, q⟩ := h
  refine ⟨ρ, M, S, he, hs, (Post.bind (rep := repI p tup) q).mono (fun J H1 ⟨M1, S1, w, e1, ok1, ⟨hz, y⟩, q1⟩ D hD => ?_) fun _ _ _ h => h⟩
  cases e : lcGo rt re is (wipeE ρ own) w.g w.xs S1 with
  | ok vs S2 =>
    rw [e] at q1
    have k := Kp.enter (o := HO.lst []) ok1 hD
    exact loopC hsub (CIn.start ok1 hD) (((he.ext e1).kp k).wipe own) (y.kp k) e (by simpa using Nat.le_trans (lcGo_len e) hz) fun M' H' k' c => c.fin q1
  | exc c w S3 => rw [e] at q1; exact q1.elim
  | bad => rw [e] at q1; exact q1.elim
theorem lcTDm {rt re : Ev} {is own : List Nat} {ri : EvI} (hsub : ∀ i ∈ is, i ∈ own) {σ : L2.St} {Q : VK} (h : tD p (mutR (comR rt re is ri own)) W σ H Q) : tLc (tDI p tup ri W) (tgD p tup is) (tDT p rt noW) (tD p re noW) own σ H Q := by
  obtain ⟨ρ, M, S, he, hs, q⟩ := h
  have q : Post p (Rep p.K) ((ri ρ S).bind fun w S1 => (match lcGo rt re is (wipeE ρ own) w.g w.xs S1 with
    | .ok vs S2 => R.ok (PV.lst vs) S2
    | _ => .bad).bind fun v S1 => match v with
    | PV.lst xs => R.ok (PV.ptr S1.length) (S1 ++ [MO.lst xs])
    | _ => .bad) M H Q (wAt W σ) := by
    unfold mutR comR at q
    rw [bind_assoc] at q
    exact q
  refine ⟨ρ, M, S, he, hs, (Post.bind (rep := repI p tup) q).mono (fun J H1 ⟨M1, S1, w, e1, ok1, ⟨hz, y⟩, q1⟩ D hD => ?_) fun _ _ _ h => h⟩
  cases e : lcGo rt re is (wipeE ρ own) w.g w.xs S1 with
  | ok vs S2 =>
    rw [e] at q1
    have k := Kp.enter (o := HO.lst []) ok1 hD
    exact loopC hsub (CIn.start ok1 hD) (((he.ext e1).kp k).wipe own) (y.kp k) e (by simpa using Nat.le_trans (lcGo_len e) hz) fun M' H' k' c => c.finm q1
  | exc c w S3 => rw [e] at q1; exact q1.elim
  | bad => rw [e] at q1; exact q1.elim
def innR (rt re : Ev) (is1 : List Nat) (ri1 : EvI) : Env → Store → R (List PV) := fun r s => match ri1 r s with
      | .ok w s1 => lcGo rt re is1 (wipeE r is1) w.g w.xs s1
      | _ => .bad
def co2R (rt re : Ev) (is : List Nat) (ri : EvI) (is1 : List Nat) (ri1 : EvI) (own : List Nat) : Ev := fun ρ S => (ri ρ S).bind fun w S1 => match lc2Go (innR rt re is1 ri1) is (wipeE ρ own) w.g w.xs S1 with
    | .ok vs S2 => if vs.length ≤ SL then .ok (.lst vs) S2 else .bad
    | _ => .bad
theorem loopC2 {J : It} {xs zs : List PV} {D : Addr} {M1 Mz : Ms} {H1 Hc : Hp} {is is1 own : List Nat} {rt re : Ev} {ri1 : EvI} {tup1 : Bool} {ρ0 : Env} {σ : L2.St} {S0 S2 : Store} {Qf : Hp → Prop} (hsub : ∀ i ∈ is, i ∈ own) (c : CIn p D M1 H1 Mz Hc S0 [])
    (he : EnvOk p.K Mz Hc ρ0 (wipe σ own)) (y : Yl p tup g J xs Mz Hc) (hgo : lc2Go (innR rt re is1 ri1) is ρ0 g xs S0 = .ok zs S2) (hl : zs.length ≤ sizeLine) (fin : ∀ M' H', Kp Mz Hc M' H' → CIn p D M1 H1 M' H' S2 zs → Qf H') :
    ∃ W : Nat → Nat → Hp → Prop, (∃ m, W 0 m Hc) ∧ ∀ i m H, W i m H → (J.stop i H ∧ Qf H) ∨ (J.go i H ∧ ∃ Nx : Hp → Prop, (∀ H', Nx H' → ∃ m', m' < m ∧ W (i + 1) m' H') ∧ ∀ x H', J.yld i H x H' →
      tgD p tup is x (wipe σ own) H' fun σ2 H2 => wipe σ2 own = wipe σ own ∧ tYes σ2 H2 fun b H3 => if b = true then tDI p tup1 ri1 noW σ2 H3 fun J1 H4 => ∃ W1 : Nat → Nat → Hp → Prop, (∃ m, W1 0 m H4) ∧ ∀ j k H, W1 j k H →
      (J1.stop j H ∧ Nx H) ∨ (J1.go j H ∧ ∃ Nx1 : Hp → Prop, (∀ H', Nx1 H' → ∃ k', k' < k ∧ W1 (j + 1) k' H') ∧ ∀ x H', J1.yld j H x H' → tgD p tup1 is1 x (wipe σ2 is1) H' fun σ3 H5 => wipe σ3 is1 = wipe σ2 is1 ∧ tDT p rt noW σ3 H5 fun b H6 =>
        if b = true then tD p re noW σ3 H6 fun y H7 => ∃ acc, H7 D = some (.lst acc) ∧ acc.length < sizeLine ∧ Nx1 (upd H7 D (.lst (acc ++ [y]))) else Nx1 H6) else Nx H3) := by
  refine ⟨fun j k H => j + k = xs.length ∧ ∃ M' S' ap' zs', Kp Mz Hc M' H ∧ CIn p D M1 H1 M' H S' ap' ∧ lc2Go (innR rt re is1 ri1) is ρ0 g (xs.drop j) S' = .ok zs' S2 ∧ ap' ++ zs' = zs, ⟨xs.length, Nat.zero_add _, Mz, S0, [], zs, Kp.refl _ _, c, hgo, rfl⟩, ?_⟩
  rintro j k H ⟨hjk, M', S', ap', zs', kp, c', hgo', hap⟩
  cases hx : xs[j]? with
  | none =>
    have hj : xs.length ≤ j := List.getElem?_eq_none_iff.mp hx
    rw [List.drop_eq_nil_of_le hj] at hgo'
    obtain ⟨hgk, e1, e2⟩ := lc2Go_nil hgo'
    subst e1 e2
    have hst := y M' H S2 kp c'.ok hgk j
    refine .inl ⟨hst.1 hj, ?_⟩
    rw [List.append_nil] at hap
    subst hap
    exact fin M' H kp c'
  | some x =>
    have hj : j < xs.length := (List.getElem?_eq_some_iff.mp hx).1
    rw [drop_cons hx] at hgo'
    obtain ⟨hgk, ρ1, us, S1, ws, ht, hin, hrest, rfl⟩ := lc2Go_cons hgo'
    have hst := y M' H S' kp c'.ok hgk j
    obtain ⟨hg, hy⟩ := hst.2 x hx
    refine .inr ⟨hg, _, fun H' q => ⟨k - 1, by omega, q⟩, fun v H' hyv => ?_⟩
    obtain ⟨e1, ok1, ri⟩ := hy v H' hyv
    have c1 := c'.ext e1 ok1
    refine ⟨M', ρ0, x, ρ1, he.kp (kp.trans e1.kpp), ri, ht, fun σ2 he2 hw2 => ⟨by rw [wipe_of hw2 hsub, wipe_wipe], ?_⟩⟩
    unfold tYes
    simp only [if_true]
    refine ⟨ρ1, M', S', he2, ok1, ?_⟩
    unfold innR at hin
    cases e2 : ri1 ρ1 S' with
    | ok ys S4 =>
      rw [e2] at hin
      simp only at hin
      intro M2 H2 J1 ex2 ok2 ⟨hz, y1⟩
      have hlen := congrArg List.length hap
      simp only [List.length_append] at hlen
      refine loopC (fun _ h => h) (c1.ext ex2 ok2) ((he2.ext ex2).wipe is1) y1 hin (by omega) fun M3 H3 k3 c3 => ?_
      exact ⟨by omega, M3, S1, ap' ++ us, ws, ((kp.trans e1.kpp).trans ex2.kpp).trans k3, c3, hrest, by rw [List.append_assoc]; exact hap⟩
    | exc cc w S3 => rw [e2] at hin; cases hin
    | bad => rw [e2] at hin; cases hin
theorem lc2TD {rt re : Ev} {is is1 own : List Nat} {ri ri1 : EvI} {tup1 : Bool} (hsub : ∀ i ∈ is, i ∈ own) {σ : L2.St} {Q : VK} (h : tD p (co2R rt re is ri is1 ri1 own) W σ H Q) :
    tLc2 (tDI p tup ri W) (tgD p tup is) tYes (tDI p tup1 ri1 noW) (tgD p tup1 is1) (tDT p rt noW) (tD p re noW) own is1 σ H Q := by
  obtain ⟨ρ, M, S, he, hs, q⟩ := h
  refine ⟨ρ, M, S, he, hs, (Post.bind (rep := repI p tup) q).mono (fun J H1 ⟨M1, S1, w, e1, ok1, ⟨hz, y⟩, q1⟩ D hD => ?_) fun _ _ _ h => h⟩
  cases e : lc2Go (innR rt re is1 ri1) is (wipeE ρ own) w.g w.xs S1 with
  | ok vs S2 =>
    rw [e] at q1
    simp only at q1
    by_cases hl : vs.length ≤ SL
    · rw [if_pos hl] at q1
      have k := Kp.enter (o := HO.lst []) ok1 hD
      exact loopC2 hsub (CIn.start ok1 hD) (((he.ext e1).kp k).wipe own) (y.kp k) e (by rw [← SL_eq]; exact hl) fun M' H' k' c => c.fin q1
    · rw [if_neg hl] at q1; exact q1.elim
  | exc c w S3 => rw [e] at q1; exact q1.elim
  | bad => rw [e] at q1; exact q1.elim
theorem lc2TDm {rt re : Ev} {is is1 own : List Nat} {ri ri1 : EvI} {tup1 : Bool} (hsub : ∀ i ∈ is, i ∈ own) {σ : L2.St} {Q : VK} (h : tD p (mutR (co2R rt re is ri is1 ri1 own)) W σ H Q) :
    tLc2 (tDI p tup ri W) (tgD p tup is) tYes (tDI p tup1 ri1 noW) (tgD p tup1 is1) (tDT p rt noW) (tD p re noW) own is1 σ H Q := by
  obtain ⟨ρ, M, S, he, hs, q⟩ := h
  have q : Post p (Rep p.K) ((ri ρ S).bind fun w S1 => (match lc2Go (innR rt re is1 ri1) is (wipeE ρ own) w.g w.xs S1 with
    | .ok vs S2 => if vs.length ≤ SL then R.ok (PV.lst vs) S2 else .bad
    | _ => .bad).bind fun v S1 => match v with
    | PV.lst xs => R.ok (PV.ptr S1.length) (S1 ++ [MO.lst xs])
    | _ => .bad) M H Q (wAt W σ) := by
    unfold mutR co2R at q
    rw [bind_assoc] at q
    exact q
  refine ⟨ρ, M, S, he, hs, (Post.bind (rep := repI p tup) q).mono (fun J H1 ⟨M1, S1, w, e1, ok1, ⟨hz, y⟩, q1⟩ D hD => ?_) fun _ _ _ h => h⟩
  cases e : lc2Go (innR rt re is1 ri1) is (wipeE ρ own) w.g w.xs S1 with
  | ok vs S2 =>
    rw [e] at q1
    simp only at q1
    by_cases hl : vs.length ≤ SL
    · rw [if_pos hl] at q1
      have k := Kp.enter (o := HO.lst []) ok1 hD
      exact loopC2 hsub (CIn.start ok1 hD) (((he.ext e1).kp k).wipe own) (y.kp k) e (by rw [← SL_eq]; exact hl) fun M' H' k' c => c.finm q1
    · rw [if_neg hl] at q1; exact q1.elim
  | exc c w S3 => rw [e] at q1; exact q1.elim
  | bad => rw [e] at q1; exact q1.elim
theorem ptsWeak {ifs : List Expr} {t t' : TT} (h : PTs X ifs t) (w : ∀ σ H Q, t' σ H Q → t σ H Q) : PTs X ifs t' := ⟨fun pins s σ H Q I q => h.run pins s σ H Q I (w σ H Q q)⟩
theorem s_pts0 : PTs X [] (tDT p (fun _ S => .ok (.bl true) S) W) := ptsWeak pts_nil fun σ H Q ⟨ρ, M, S, he, hs, q⟩ => by
  have q : Post p repB (.ok true S) M H Q (wAt W σ) := q
  exact q.done hs rfl
end G
set_option maxHeartbeats 1000000
namespace G
open PySem PySem.Spec PyProof.Rows L2
variable {p : Pm} {X : Cx} {W : WX} {M : Ms} {H : Hp} {S : Store} {a b : Expr} {ra rb : Ev} {pos p2 : Pos} {tup : Bool}
theorem isLst_some {n : Nat} (h : isLst S n = true) : ∃ xs, S[n]? = some (.lst xs) := by
  unfold isLst at h
  split at h
  · rename_i xs e; exact ⟨xs, e⟩
  · cases h
theorem isDis_some {n : Nat} (h : isDis S n = true) : ∃ xs, S[n]? = some (.dis xs) := by
  unfold isDis at h
  split at h
  · rename_i xs e; exact ⟨xs, e⟩
  · cases h
theorem ptr_list {pins : List (Addr × Obj)} {σ : L2.St} {s : Shared} {ρ : Env} {n : Nat} {v : V} (A : At p X pins σ s ρ M S H) (r : Rep p.K M H (.ptr n) v) (hg : ∃ xs, S[n]? = some (.lst xs)) :
    ∃ a xs vs its k, v = .ref a ∧ M.l[n]? = some a ∧ S[n]? = some (.lst xs) ∧ H a = some (.lst vs) ∧ RepL p.K M H xs vs ∧ Vals vs its ∧ s.heap.get? a = some { cls := .type "list", data := .seq its.toArray k } ∧ vs.length ≤ sizeLine := by
  unfold Rep at r
  obtain ⟨a, rfl, h⟩ := r
  obtain ⟨xs, hs⟩ := hg
  obtain ⟨vs, hv, rl⟩ := A.ok.at_ h hs
  obtain ⟨its, k, rv, ho, hz⟩ := A.inv.lst hv
  exact ⟨a, xs, vs, its, k, rfl, h, hs, hv, rl, rv, ho, hz⟩
theorem fin_chg {M : Ms} {S : Store} {H : Hp} {Q : VK} {W' : XK} {n : Nat} {a : Addr} {xs : List PV} {vs ws : List V} (h : Post p (Rep p.K) (.ok .non (S.set n (.lst xs))) M H Q W') (s : SOk p M S H) (hm : M.l[n]? = some a) (ho : H a = some (.lst ws)) (r : RepL p.K M H xs vs) : Q .non (upd H a (.lst vs)) :=
  h M _ _ (Ext.chg s hm) (s.chg hm ho r) (by unfold Rep; rfl)
theorem mp_append : MthP p X "append" .append := by
  intro pins s σ ρ M S H x v u A r rv hr
  cases x with
  | ptr n =>
    obtain ⟨a, xs, vs, its, k, rfl, h1, h2, h3, rl, rvs, ho, hz⟩ := ptr_list A r (isLst_some hr)
    cases rv
    refine ⟨"list", "list.append", PySem.F.plainAttrs_list, PySem.F.slot_list_append, PySem.F.type_list_append, ⟨_, ho, rfl⟩, fun b e => by cases e; exact ⟨_, ho, rfl⟩, ?_⟩
    intro s2 M2 S2 H2 ys ws us Q W' A2 r2 rl2 rv2 q
    rcases ys with _ | ⟨y, _ | ⟨y2, l⟩⟩
    · exact (show False from q).elim
    · have q' : Post p (Rep p.K) (match S2[n]? with
        | some (.lst xs) => if xs.length < 1000000 then rok .non (S2.set n (.lst (xs ++ [y]))) else .bad
        | _ => .bad) M2 H2 Q W' := q
      have hg : ∃ xs, S2[n]? = some (.lst xs) := by
        split at q'
        · rename_i xs e; exact ⟨xs, e⟩
        · exact (show False from q').elim
      obtain ⟨a2, xs2, vs2, its2, k2, e2, g1, g2, g3, rl3, rvs2, ho2, hz2⟩ := ptr_list A2 r2 hg
      cases e2
      rw [g2] at q'
      simp only at q'
      obtain ⟨w, rfl, rw'⟩ := RepL.one (xs := []) rl2
      by_cases hl : xs2.length < 1000000
      · rw [if_pos hl] at q'
        refine mt_append pins s2 σ H2 (.ref a) [w] (.ref a) us Q A2.inv rfl rv2 ⟨a, vs2, w, rfl, rfl, g3, ?_, fin_chg q' A2.ok g1 g3 (rl3.append (.cons rw' .nil))⟩
        rw [← rl3.length, ← SL_eq, SL]; omega
      · rw [if_neg hl] at q'; exact q'.elim
    · exact (show False from q).elim
  | _ => exact absurd hr (by simp [recv])
theorem erase_idx : ∀ {ss : List (List Nat)} {z : List Nat}, z ∈ ss → ss.eraseIdx (ss.idxOf z) = ss.erase z
  | a :: r, z, h => by
    rw [List.idxOf_cons, List.erase_cons]
    by_cases e : a = z
    · subst e; simp
    · have hb : (a == z) = false := by simpa using e
      rw [hb]
      have hz : z ∈ r := by
        rcases List.mem_cons.mp h with q | q
        · exact absurd q.symm e
        · exact q
      simp [erase_idx hz]
theorem map_eraseIdx {α β : Type} (f : α → β) : ∀ (ns : List α) (j : Nat), (ns.map f).eraseIdx j = (ns.eraseIdx j).map f
  | [], _ => rfl
  | _ :: _, 0 => rfl
  | n :: r, j + 1 => by
    show f n :: (r.map f).eraseIdx j = f n :: (r.eraseIdx j).map f
    rw [map_eraseIdx f r j]
theorem ss_eq {x y : List Nat} (h : SS x = SS y) : x = y := by
  have : x.toArray = y.toArray := congrArg Str.cps h
  simpa using congrArg Array.toList this
theorem mp_remove : MthP p X "remove" .remove := by
  intro pins s σ ρ M S H x v u A r rv hr
  cases x with
  | ptr n =>
    obtain ⟨a, xs, vs, its, k, rfl, h1, h2, h3, rl, rvs, ho, hz⟩ := ptr_list A r (isLst_some hr)
    cases rv
    refine ⟨"list", "list.remove", PySem.F.plainAttrs_list, PySem.F.slot_list_remove, PySem.F.type_list_remove, ⟨_, ho, rfl⟩, fun b e => by cases e; exact ⟨_, ho, rfl⟩, ?_⟩
    intro s2 M2 S2 H2 ys ws us Q W' A2 r2 rl2 rv2 q
    rcases ys with _ | ⟨y, _ | ⟨y2, l⟩⟩
    · exact (show False from q).elim
    · cases y with
      | str z =>
        have q' : Post p (Rep p.K) (match S2[n]? with
          | some (.lst xs) => match allS xs with
            | some ss => if z ∈ ss then rok .non (S2.set n (.lst ((ss.erase z).map .str))) else .bad
            | none => .bad
          | _ => .bad) M2 H2 Q W' := q
        have hg : ∃ xs, S2[n]? = some (.lst xs) := by
          split at q'
          · rename_i xs e; exact ⟨xs, e⟩
          · exact (show False from q').elim
        obtain ⟨a2, xs2, vs2, its2, k2, e2, g1, g2, g3, rl3, rvs2, ho2, hz2⟩ := ptr_list A2 r2 hg
        cases e2
        rw [g2] at q'
        simp only at q'
        obtain ⟨w, rfl, rw'⟩ := RepL.one (xs := []) rl2
        cases ea : allS xs2 with
        | none => rw [ea] at q'; exact (show False from q').elim
        | some ss =>
          rw [ea] at q'
          simp only at q'
          by_cases hm : z ∈ ss
          · rw [if_pos hm] at q'
            have e1 := allS_some ea
            subst e1
            obtain ⟨rfl, hok⟩ := rep_strs rl3
            unfold Rep at rw'
            obtain ⟨rfl, oz⟩ := rw'
            obtain ⟨u2, rfl, ru⟩ := rv2.one
            obtain ⟨t, rfl⟩ := ru
            have hS : StrsAre its2 (ss.map SS) := rvs2.strs
            have hln := PySem.SeqAt.strsAre_length hS
            obtain ⟨f1, f2⟩ := idxOf_first hm
            have hj : ss.idxOf z < ss.length := List.idxOf_lt_length_of_mem hm
            have hj2 : ss.idxOf z < its2.length := by rw [hln, List.length_map]; exact hj
            refine call_meets PySem.F.slot_list_remove ⟨_, ho2, rfl⟩ PySem.F.entry_list_remove (PySem.F.args_list_remove_2 _ _)
              (MeetsSeq.list_remove a its2.toArray k2 (.str (SS z) t) (isStrOf (SS z)) (fun y hy => eq_isStrOf (SS z) t hS y (by simpa using hy)) (ss.idxOf z) (by rw [List.size_toArray]; exact hj2) ?hit (fun i hi2 hlt => ?hno) (by rw [List.size_toArray, hln]; rw [List.length_map] at hz2; exact hz2)) ⟨ho2, ?_⟩
            case hit =>
              show isStrOf (SS z) its2[ss.idxOf z] = true
              rw [PySem.SeqAt.isStrOf_at (SS z) hS _ hj2 (by rw [List.length_map]; exact hj), List.getElem_map]
              have e5 : ss[ss.idxOf z] = z := by
                rw [List.getElem?_eq_getElem hj] at f1
                exact Option.some.inj f1
              rw [e5]
              simp
            case hno =>
              have hi3 : i < its2.length := by rw [List.size_toArray] at hi2; exact hi2
              show isStrOf (SS z) its2[i] = false
              have hi4 : i < ss.length := by rw [hln, List.length_map] at hi3; exact hi3
              rw [PySem.SeqAt.isStrOf_at (SS z) hS _ hi3 (by rw [List.length_map]; exact hi4), List.getElem_map]
              rw [beq_eq_false_iff_ne]
              intro e6
              exact f2 i hlt (by rw [List.getElem?_eq_getElem hi4, ss_eq e6])
            have r3 : Vals (((ss.erase z).map SS).map V.str) (its2.eraseIdx (ss.idxOf z)) := by
              have w := rvs2.eraseIdx (ss.idxOf z)
              rw [map_eraseIdx, map_eraseIdx, erase_idx hm] at w
              exact w
            refine ⟨.non, _, A2.inv.lset (its' := its2.eraseIdx (ss.idxOf z)) g3 ho2 ?_ r3 ?_, rfl, fin_chg q' A2.ok g1 g3 (strs_rep fun y hy => hok y (List.mem_of_mem_erase hy))⟩
            · show its2.toArray.eraseIdxIfInBounds (ss.idxOf z) = (its2.eraseIdx (ss.idxOf z)).toArray
              rw [List.eraseIdxIfInBounds_toArray]
            · rw [List.length_map, List.length_map]
              rw [List.length_map, List.length_map] at hz2
              have := List.length_erase_le (a := z) (l := ss)
              omega
          · rw [if_neg hm] at q'; exact (show False from q').elim
      | _ => exact (show False from q).elim
    · cases y <;> exact (show False from q).elim
  | _ => exact absurd hr (by simp [recv])
theorem spl_mem {b : List Nat} : ∀ (l acc : List Nat) (k : Nat) (q : List Nat), q ∈ TL.spl b k acc l → (∀ c ∈ q, c ∈ acc ∨ c ∈ l) ∧ q.length ≤ acc.length + l.length
  | [], acc, k, q, h => by
    rw [TL.spl_nil] at h
    rw [List.mem_singleton.mp h]
    exact ⟨fun c hc => .inl hc, by simp⟩
  | c :: r, acc, 0, q, h => by
    unfold TL.spl at h
    split at h
    · rcases List.mem_cons.mp h with rfl | h
      · exact ⟨fun d hd => .inl hd, by simp⟩
      · obtain ⟨h1, h2⟩ := spl_mem r [] _ q h
        exact ⟨fun d hd => .inr (List.mem_cons_of_mem _ ((h1 d hd).resolve_left (by simp))), by simp at h2 ⊢; omega⟩
    · obtain ⟨h1, h2⟩ := spl_mem r (acc ++ [c]) 0 q h
      refine ⟨fun d hd => ?_, by simp at h2 ⊢; omega⟩
      rcases h1 d hd with h | h
      · rcases List.mem_append.mp h with h | h
        · exact .inl h
        · exact .inr (by rw [List.mem_singleton.mp h]; exact List.mem_cons_self)
      · exact .inr (List.mem_cons_of_mem _ h)
  | c :: r, acc, k + 1, q, h => by
    unfold TL.spl at h
    obtain ⟨h1, h2⟩ := spl_mem r acc k q h
    exact ⟨fun d hd => (h1 d hd).imp id (List.mem_cons_of_mem _), by simp at h2 ⊢; omega⟩
theorem mp_split : MthP p X "split" .split := by
  intro pins s σ ρ M S H x v u A r rv hr
  cases x with
  | str a =>
    unfold Rep at r
    obtain ⟨rfl, oa⟩ := r
    obtain ⟨t, rfl⟩ := rv
    refine ⟨"str", "str.split", PySem.F.plainAttrs_str, PySem.F.slot_str_split, PySem.F.type_str_split, typeIs_str _ _ _, (fun _ e => nomatch e), ?_⟩
    intro s2 M2 S2 H2 ys ws us Q W' A2 r2 rl2 rv2 q
    rcases ys with _ | ⟨y, _ | ⟨y2, l⟩⟩
    · exact (show False from q).elim
    · cases y with
      | str b =>
        have q' : Post p (Rep p.K) (if b ≠ [] ∧ b.all (· < 256) = true ∧ a.length + 2 ≤ SL then rok (.lst ((TL.spl b 0 [] a).map .str)) S2 else .bad) M2 H2 Q W' := q
        obtain ⟨w, rfl, rz⟩ := RepL.one (xs := []) rl2
        unfold Rep at rz
        obtain ⟨rfl, ob⟩ := rz
        by_cases hc : b ≠ [] ∧ b.all (· < 256) = true ∧ a.length + 2 ≤ SL
        · rw [if_pos hc] at q'
          obtain ⟨h1, h2, h3⟩ := hc
          refine mt_split pins s2 σ H2 (.str (SS a)) [.str (SS b)] _ us Q A2.inv ⟨t, rfl⟩ rv2 ⟨SS a, SS b, rfl, rfl, ?_, ?_, fun l hl => ?_⟩
          · rw [SS_len]
            simpa using h1
          · rw [SS_len, ← SL_eq]; exact h3
          · have e : Txt.split (SS a) (SS b) = (TL.spl b 0 [] a).map SS := SX.split_S h1 h2
            rw [e]
            exact fin_new q' A2.ok hl (new_lst (s := A2.ok) hl (strs_rep fun z hz => okS_sub oa (fun c hcz => ((spl_mem a [] 0 z hz).1 c hcz).resolve_left (by simp)) (by have := (spl_mem a [] 0 z hz).2; simpa using this)))
        · rw [if_neg hc] at q'; exact q'.elim
      | _ => exact (show False from q).elim
    · cases y <;> exact (show False from q).elim
  | _ => exact absurd hr (by simp [recv])
theorem upc_small {c : Nat} (h : c < 128) : upc c < 128 := by unfold upc; split <;> omega
theorem mp_upper : MthP p X "upper" .upper := by
  intro pins s σ ρ M S H x v u A r rv hr
  cases x with
  | str a =>
    unfold Rep at r
    obtain ⟨rfl, oa⟩ := r
    obtain ⟨t, rfl⟩ := rv
    refine ⟨"str", "str.upper", PySem.F.plainAttrs_str, PySem.F.slot_str_upper, PySem.F.type_str_upper, typeIs_str _ _ _, (fun _ e => nomatch e), ?_⟩
    intro s2 M2 S2 H2 ys ws us Q W' A2 r2 rl2 rv2 q
    rcases ys with _ | ⟨y, l⟩
    · have q' : Post p (Rep p.K) (if a.all (· < 128) = true ∧ a.length ≤ 1000 then rok (.str (a.map upc)) S2 else .bad) M2 H2 Q W' := q
      by_cases hc : a.all (· < 128) = true ∧ a.length ≤ 1000
      · rw [if_pos hc] at q'
        have ew : ws = [] := rl2.nil_inv
        subst ew
        have hA : ∀ c ∈ a, c < 128 := fun c h => of_decide_eq_true (List.all_eq_true.mp hc.1 c h)
        refine mt_upper pins s2 σ H2 (.str (SS a)) [] _ us Q A2.inv ⟨t, rfl⟩ rv2 ⟨SS a, rfl, rfl, ?_, ?_⟩
        · rw [SS_len]; omega
        · have e : Txt.upper (SS a) = SS (a.map upc) := by
            rw [PyProof.Rows.upper_ascii (x := SS a) (fun c h => hA c (by simpa using h))]
            show (⟨a.toArray.map PyProof.Rows.up1⟩ : Str) = ⟨(a.map upc).toArray⟩
            rw [List.map_toArray]
            rfl
          rw [e]
          refine fin0 A2 (x := .str (a.map upc)) q' ?_
          unfold Rep
          refine ⟨rfl, ?_⟩
          unfold okS
          rw [Bool.and_eq_true]
          refine ⟨List.all_eq_true.mpr fun c h => decide_eq_true ?_, decide_eq_true (by rw [List.length_map]; omega)⟩
          obtain ⟨d, hd, rfl⟩ := List.mem_map.mp h
          have := upc_small (hA d hd)
          omega
      · rw [if_neg hc] at q'; exact q'.elim
    · exact (show False from q).elim
  | _ => exact absurd hr (by simp [recv])
theorem joinL_mem {b : List Nat} : ∀ (l : List (List Nat)) (c : Nat), c ∈ TL.joinL b l → c ∈ b ∨ ∃ q ∈ l, c ∈ q
  | [], c, h => by cases h
  | [q], c, h => .inr ⟨q, List.mem_cons_self, h⟩
  | q :: q2 :: r, c, h => by
    unfold TL.joinL at h
    rcases List.mem_append.mp h with h | h
    · exact .inr ⟨q, List.mem_cons_self, h⟩
    · rcases List.mem_append.mp h with h | h
      · exact .inl h
      · rcases joinL_mem (q2 :: r) c h with h | ⟨z, h1, h2⟩
        · exact .inl h
        · exact .inr ⟨z, List.mem_cons_of_mem _ h1, h2⟩
theorem joinL_len {b : List Nat} : ∀ (l : List (List Nat)), (TL.joinL b l).length ≤ (l.map (·.length)).sum + l.length * b.length
  | [] => by simp [TL.joinL]
  | [q] => by simp [TL.joinL]
  | q :: q2 :: r => by
    unfold TL.joinL
    have ih := joinL_len (b := b) (q2 :: r)
    simp only [List.length_append, List.map_cons, List.sum_cons, List.length_cons] at ih ⊢
    rw [Nat.add_mul, Nat.one_mul]
    omega
theorem okS_join {a : List Nat} {ss : List (List Nat)} (ha : okS a = true) (hs : ∀ z ∈ ss, okS z = true) (h : (ss.map (·.length)).sum + ss.length * a.length ≤ SL) : okS (TL.joinL a ss) = true := by
  unfold okS
  rw [Bool.and_eq_true]
  refine ⟨List.all_eq_true.mpr fun c hc => ?_, decide_eq_true (by have := joinL_len (b := a) ss; unfold SL at h; omega)⟩
  rcases joinL_mem ss c hc with h | ⟨z, h1, h2⟩
  · unfold okS at ha
    rw [Bool.and_eq_true] at ha
    exact List.all_eq_true.mp ha.1 c h
  · have := hs z h1
    unfold okS at this
    rw [Bool.and_eq_true] at this
    exact List.all_eq_true.mp this.1 c h2
theorem mp_join (hK : X.K = p.K) : MthP p X "join" .join := by
  intro pins s σ ρ M S H x v u A r rv hr
  cases x with
  | str a =>
    unfold Rep at r
    obtain ⟨rfl, oa⟩ := r
    obtain ⟨t, rfl⟩ := rv
    refine ⟨"str", "str.join", PySem.F.plainAttrs_str, PySem.F.slot_str_join, PySem.F.type_str_join, typeIs_str _ _ _, (fun _ e => nomatch e), ?_⟩
    intro s2 M2 S2 H2 ys ws us Q W' A2 r2 rl2 rv2 q
    rcases ys with _ | ⟨y, _ | ⟨y2, l⟩⟩
    · exact (show False from q).elim
    · have q' : Post p (Rep p.K) (match res S2 y with
        | .lst xs => match allS xs with
          | some ss => if (ss.map (·.length)).sum + ss.length * a.length ≤ SL then rok (.str (TL.joinL a ss)) S2 else .bad
          | none => .bad
        | .tup xs => match allS xs with
          | some ss => if (ss.map (·.length)).sum + ss.length * a.length ≤ SL then rok (.str (TL.joinL a ss)) S2 else .bad
          | none => .bad
        | _ => .bad) M2 H2 Q W' := q
      obtain ⟨w, rfl, rz⟩ := RepL.one (xs := []) rl2
      have fin : ∀ (zs : List PV) (vs : List V) (qa : Addr), w = .ref qa → RepL p.K M2 H2 zs vs → (SqL X.K H2 qa vs ∨ SqT X.K H2 qa vs) →
          Post p (Rep p.K) (match allS zs with
          | some ss => if (ss.map (·.length)).sum + ss.length * a.length ≤ SL then rok (.str (TL.joinL a ss)) S2 else .bad
          | none => .bad) M2 H2 Q W' → wpAny (model X.prog X.w) X.A (call (.builtin "str.join") (Value.str (SS a) t :: us)) (EP X pins σ Q) X.xe s2 := by
        intro zs vs qa e rl hq q2
        subst e
        cases ea : allS zs with
        | none => rw [ea] at q2; exact (show False from q2).elim
        | some ss =>
          rw [ea] at q2
          simp only at q2
          by_cases hl : (ss.map (·.length)).sum + ss.length * a.length ≤ SL
          · rw [if_pos hl] at q2
            have e1 := allS_some ea
            subst e1
            obtain ⟨rfl, hok⟩ := rep_strs rl
            refine mt_join pins s2 σ H2 (.str (SS a)) [.ref qa] _ us Q A2.inv ⟨t, rfl⟩ rv2 ⟨SS a, qa, ss.map SS, rfl, rfl, hq, ?_, ?_⟩
            · have e2 : (ss.map SS).map (·.length) = ss.map (·.length) := SX.lens ss
              rw [e2, List.length_map, SS_len]
              unfold SL at hl
              exact hl
            · have e3 : Txt.join (SS a) (ss.map SS) = SS (TL.joinL a ss) := SX.join_S a ss
              rw [e3]
              exact fin0 A2 q2 (by unfold Rep; exact ⟨rfl, okS_join oa hok hl⟩)
          · rw [if_neg hl] at q2; exact q2.elim
      rcases rep_res A2.ok rz with ⟨m, zs, qa, vs, rfl, e, rfl, hq, rl⟩ | ⟨e, np⟩
      · rw [e] at q'
        exact fin zs vs qa rfl rl (.inl (.of hq)) q'
      · rw [e] at q'
        cases y with
        | lst zs =>
          unfold Rep at rz
          obtain ⟨qa, vs, rfl, h1, rl⟩ := rz
          exact fin zs vs qa rfl rl (.inl h1.sq) q'
        | tup zs =>
          unfold Rep at rz
          obtain ⟨qa, vs, rfl, h1, rl⟩ := rz
          exact fin zs vs qa rfl rl (.inr h1.sq) q'
        | _ => exact (show False from q').elim
    · exact (show False from q).elim
  | _ => exact absurd hr (by simp [recv])
/-- a part of a display: the base (M, H) is kept behind -/
theorem keepP {α β : Type} {rep : Ms → Hp → α → β → Prop} {r : R PV} {k : PV → Store → R α} {M M0 : Ms} {H H0 : Hp} {Q : β → Hp → Prop} {W' : XK} (q : Post p rep (r.bind k) M H Q W') (e : Ext M H M0 H0) {R' : VK}
    (hR : ∀ x S1 v M1 H1, Ext M0 H0 M1 H1 → SOk p M1 S1 H1 → Rep p.K M1 H1 x v → Post p rep (k x S1) M H Q W' → R' v H1) : Post p (Rep p.K) r M0 H0 R' W' := by
  cases r with
  | ok x S1 => exact fun M1 H1 v e1 s1 r1 => hR x S1 v M1 H1 e1 s1 r1 q
  | exc c v S1 => exact fun M1 H1 cls d e1 s1 r1 => q M1 H1 cls d (e.trans e1) s1 r1
  | bad => exact q
def dspR (r1 r2 r3 r4 : Ev) : Ev := fun ρ S => (r1 ρ S).bind fun k S1 => (r2 ρ S1).bind fun x S2 => (r3 ρ S2).bind fun l S3 => (r4 ρ S3).bind fun y S4 => match dspOf k x l y with
    | some kvs => .ok (.ptr S4.length) (S4 ++ [.dis kvs])
    | none => .bad
theorem ssk {a b : List Nat} : ((.inr (SS a) : Key) = .inr (SS b)) ↔ a = b := by
  constructor
  · intro h
    have h := Sum.inr.inj h
    have : a.toArray = b.toArray := congrArg Str.cps h
    simpa using congrArg Array.toList this
  · intro h; rw [h]
theorem s_dsp {e1 e2 e3 e4 : Expr} {r1 r2 r3 r4 : Ev} (h1 : PE X e1 (tD p r1 W)) (h2 : PE X e2 (tD p r2 W)) (h3 : PE X e3 (tD p r3 W)) (h4 : PE X e4 (tD p r4 W)) : PE X (.Dict [some e1, some e3] [e2, e4] pos) (tD p (dspR r1 r2 r3 r4) W) := by
  refine peWeak (pe_disp (pps_cons h1 h2 (pps_cons h3 h4 pps_nil)) rfl rfl (by simp) (by simp)) fun σ H Q ⟨ρ, M, S, he, hs, q⟩ => ?_
  intro c hn
  have E0 : Ext M H M (upd H c (.dK [])) := Ext.alloc hs hn
  have s0 : SOk p M S (upd H c (.dK [])) := hs.alloc hn
  refine ⟨ρ, M, S, he.ext E0, s0, keepP q E0 fun x1 S1 v1 M1 H1 f1 s1 p1 q1 => ?_⟩
  refine ⟨ρ, M1, S1, (he.ext E0).ext f1, s1, keepP q1 (E0.trans f1) fun x2 S2 v2 M2 H2 f2 s2 p2 q2 => ?_⟩
  refine ⟨ρ, M2, S2, ((he.ext E0).ext f1).ext f2, s2, keepP q2 ((E0.trans f1).trans f2) fun x3 S3 v3 M3 H3 f3 s3 p3 q3 => ?_⟩
  refine ⟨ρ, M3, S3, (((he.ext E0).ext f1).ext f2).ext f3, s3, keepP q3 (((E0.trans f1).trans f2).trans f3) fun x4 S4 v4 M4 H4 f4 s4 p4 q4 => ?_⟩
  have FF : Ext M (upd H c (.dK [])) M4 H4 := ((f1.trans f2).trans f3).trans f4
  have nm : c ∉ M := fun z => hs.live z hn
  have nm4 : c ∉ M4 := FF.out nm upd_same rfl
  have hc : H4 c = some (.dK []) := FF.imm c _ nm upd_same rfl
  refine ⟨hc, ?_⟩
  cases x1 with
  | str a =>
    cases x3 with
    | str b =>
      have p1' := ((p1.ext f2).ext f3).ext f4
      have p2' := (p2.ext f3).ext f4
      have p3' := p3.ext f4
      unfold Rep at p1' p3'
      obtain ⟨rfl, _⟩ := p1'
      obtain ⟨rfl, _⟩ := p3'
      refine ⟨[(.inr (SS a), v2), (.inr (SS b), v4)], rfl, by simp, ?_⟩
      by_cases hab : a = b
      · subst hab
        have q5 : Post p (Rep p.K) (.ok (.ptr S4.length) (S4 ++ [.dis [(a, x4)]])) M H Q (wAt W σ) := by
          have : dspOf (.str a) x2 (.str a) x4 = some [(a, x4)] := by
            show some (if a = a then [(a, x4)] else [(a, x2), (a, x4)]) = _
            rw [if_pos rfl]
          rw [this] at q4; exact q4
        have em : mergeK [] [(.inr (SS a), v2), (.inr (SS a), v4)] = (keyS [(a, x4)]).zip [v4] := by
          simp [mergeK, putK, keyS]
        rw [em]
        exact q5 (M4.add c) _ _ (Ext.dcell hs hn (E0.trans FF)) (s4.dcell nm4 hc (.cons p4 .nil)) (by unfold Rep; exact ⟨c, rfl, by show (M4.l ++ [c])[S4.length]? = some c; rw [← s4.len]; simp⟩)
      · have q5 : Post p (Rep p.K) (.ok (.ptr S4.length) (S4 ++ [.dis [(a, x2), (b, x4)]])) M H Q (wAt W σ) := by
          have : dspOf (.str a) x2 (.str b) x4 = some [(a, x2), (b, x4)] := by unfold dspOf; simp only [if_neg hab]
          rw [this] at q4; exact q4
        have nk : ¬ ((.inr (SS a) : Key) = .inr (SS b)) := fun z => hab (ssk.mp z)
        have em : mergeK [] [(.inr (SS a), v2), (.inr (SS b), v4)] = (keyS [(a, x2), (b, x4)]).zip [v2, v4] := by
          simp only [mergeK, List.foldl_cons, List.foldl_nil, putK, List.any_nil, Bool.false_eq_true, if_false, List.nil_append, List.any_cons, Bool.or_false, decide_eq_true_eq, if_neg nk, keyS, List.map_cons, List.map_nil, List.zip_cons_cons, List.zip_nil_left, List.cons_append]
        rw [em]
        exact q5 (M4.add c) _ _ (Ext.dcell hs hn (E0.trans FF)) (s4.dcell nm4 hc (.cons p2' (.cons p4 .nil))) (by unfold Rep; exact ⟨c, rfl, by show (M4.l ++ [c])[S4.length]? = some c; rw [← s4.len]; simp⟩)
    | _ => exact (show False from q4).elim
  | _ => exact (show False from q4).elim
theorem zip_val : ∀ {kvs : List (List Nat × PV)} {vs : List V}, RepL p.K M H (valS kvs) vs → ∀ (a : List Nat), (match kvs.lookup a with
    | some x => ∃ v, valV ((keyS kvs).zip vs) (.inr (SS a)) = some v ∧ Rep p.K M H x v
    | none => valV ((keyS kvs).zip vs) (.inr (SS a)) = none)
  | [], vs, r, a => by rw [List.lookup_nil]; rfl
  | (b, x) :: kvs, vs, r, a => by
    obtain ⟨v, ws, rfl, r1, r2⟩ : ∃ w ws, vs = w :: ws ∧ Rep p.K M H x w ∧ RepL p.K M H (valS kvs) ws := r
    have ih := zip_val r2 a
    show (match ((b, x) :: kvs).lookup a with
      | some x => ∃ w, valV ((.inr (SS b), v) :: (keyS kvs).zip ws) (.inr (SS a)) = some w ∧ Rep p.K M H x w
      | none => valV ((.inr (SS b), v) :: (keyS kvs).zip ws) (.inr (SS a)) = none)
    by_cases hab : a = b
    · subst hab
      rw [List.lookup_cons_self]
      exact ⟨v, valV_pos rfl, r1⟩
    · have hb : (a == b) = false := by simpa using hab
      rw [List.lookup_cons, hb, valV_neg (fun z => hab (ssk.mp z).symm)]
      exact ih
theorem ptr_dis {pins : List (Addr × Obj)} {σ : L2.St} {s : Shared} {ρ : Env} {n : Nat} {v : V} (A : At p X pins σ s ρ M S H) (r : Rep p.K M H (.ptr n) v) (hg : ∃ xs, S[n]? = some (.dis xs)) :
    ∃ a kvs vs, v = .ref a ∧ M.l[n]? = some a ∧ S[n]? = some (.dis kvs) ∧ H a = some (.dK ((keyS kvs).zip vs)) ∧ RepL p.K M H (valS kvs) vs := by
  unfold Rep at r
  obtain ⟨a, rfl, h⟩ := r
  obtain ⟨kvs, hs⟩ := hg
  obtain ⟨vs, hv, rl⟩ := A.ok.obj n a _ h hs
  exact ⟨a, kvs, vs, rfl, h, hs, hv, rl⟩
theorem mp_dget : MthP p X "get" .dget := by
  intro pins s σ ρ M S H x v u A r rv hr
  cases x with
  | ptr n =>
    obtain ⟨a, kvs, vs, rfl, h1, h2, h3, rl⟩ := ptr_dis A r (isDis_some hr)
    cases rv
    obtain ⟨t1, t2, _⟩ := isD_at A.inv (.inl ⟨_, .of h3⟩ : IsD H a)
    refine ⟨"dict", "dict.get", PySem.F.plainAttrs_dict, PySem.F.slot_dict_get, PySem.F.type_dict_get, t1, t2, ?_⟩
    intro s2 M2 S2 H2 ys ws us Q W' A2 r2 rl2 rv2 q
    rcases ys with _ | ⟨y, _ | ⟨d, _ | ⟨y3, l⟩⟩⟩
    · exact (show False from q).elim
    · exact (show False from (by cases y <;> exact q)).elim
    · cases y with
      | str z =>
        have q' : Post p (Rep p.K) (match S2[n]? with
          | some (.dis kvs) => rok ((kvs.lookup z).getD d) S2
          | _ => .bad) M2 H2 Q W' := q
        have hg : ∃ xs, S2[n]? = some (.dis xs) := by
          split at q'
          · rename_i xs e; exact ⟨xs, e⟩
          · exact (show False from q').elim
        obtain ⟨a2, kvs2, vs2, e2, g1, g2, g3, rl3⟩ := ptr_dis A2 r2 hg
        cases e2
        rw [g2] at q'
        simp only at q'
        obtain ⟨wk, wd, rfl, rk, wr⟩ : ∃ w ws', ws = w :: ws' ∧ Rep p.K M2 H2 (.str z) w ∧ RepL p.K M2 H2 [d] ws' := rl2
        obtain ⟨w, rfl, rd⟩ := RepL.one (xs := []) wr
        unfold Rep at rk
        obtain ⟨rfl, oz⟩ := rk
        obtain ⟨uk, us', rfl, ru1, rv3⟩ : ∃ u us', us = u :: us' ∧ RelV (.str (SS z)) u ∧ Vals [w] us' := by
          cases rv2 with | cons h t => exact ⟨_, _, rfl, h, t⟩
        obtain ⟨ud, rfl, ru2⟩ := rv3.one
        obtain ⟨hz, hd, vs0, rel, dd⟩ := dk_rd A2.inv.hok (.of g3)
        refine call_meetsIn PySem.F.slot_dict_get dd.typeIs PySem.F.entry_dict_get (PySem.F.args_dict_get_3 _ _ _) (meets_dict_get_default (mixKind X.prog X.w) a (kV_is (k := .inr (SS z)) ru1) hd ud) ⟨_, dd.mapOf, ?_⟩
        have zv := zip_val rl3 z
        cases el : kvs2.lookup z with
        | none =>
          rw [el] at zv q'
          have rr := (rel.val (.inr (SS z))).getD ru2
          rw [show valV ((keyS kvs2).zip vs2) (.inr (SS z)) = none from zv] at rr
          exact ⟨w, H2, A2.inv.tok _, rr, fin0 A2 q' rd⟩
        | some x =>
          rw [el] at zv q'
          obtain ⟨w2, ev, rx⟩ := zv
          have rr := (rel.val (.inr (SS z))).getD ru2
          rw [ev] at rr
          exact ⟨w2, H2, A2.inv.tok _, rr, fin0 A2 q' rx⟩
      | _ => exact (show False from q).elim
    · cases y <;> exact (show False from q).elim
  | _ => exact absurd hr (by simp [recv])
end G
set_option maxHeartbeats 1000000
namespace G
open PySem PySem.Spec PyProof.Rows L2
variable {p : Pm} {X : Cx} {W : WX} {M : Ms} {H : Hp} {S : Store} {a b : Expr} {ra rb : Ev} {pos p2 : Pos} {tup : Bool}
abbrev EvS := Env → Store → SR
def PostS (p : Pm) (r : SR) (M : Ms) (H : Hp) (D : Ends) (W : WX) : Prop := match r with
  | .nx ρ S => ∀ M' H' σ', Ext M H M' H' → SOk p M' S H' → EnvOk p.K M' H' ρ σ' → D.nx σ' H'
  | .rt v S => ∀ M' H' w, Ext M H M' H' → SOk p M' S H' → Rep p.K M' H' v w → D.rt w H'
  | .ex c v ρ S => ∀ M' H' σ' cls d, Ext M H M' H' → SOk p M' S H' → EnvOk p.K M' H' ρ σ' → ERep p c v cls d H' → W cls d σ' H'
  | .bad => False
def tS (p : Pm) (r : EvS) (W : WX) : TS := fun D σ H => ∃ ρ M S, EnvOk p.K M H ρ σ ∧ SOk p M S H ∧ PostS p (r ρ S) M H D W
theorem PostS.ext {r : SR} {D : Ends} {M' : Ms} {H' : Hp} (h : PostS p r M H D W) (e : Ext M H M' H') : PostS p r M' H' D W := by
  cases r with
  | nx ρ S => exact fun M2 H2 σ' e2 => h M2 H2 σ' (e.trans e2)
  | rt v S => exact fun M2 H2 w e2 => h M2 H2 w (e.trans e2)
  | ex c v ρ S => exact fun M2 H2 σ' cls d e2 => h M2 H2 σ' cls d (e.trans e2)
  | bad => exact h
/-- an expression ahead of a statement's end -/
theorem PostS.of {α β : Type} {rep : Ms → Hp → α → β → Prop} {r : R α} {ρ : Env} {σ : L2.St} {k : α → Store → SR} {D : Ends} (he : EnvOk p.K M H ρ σ) (h : PostS p (SR.of r ρ k) M H D W) :
    Post p rep r M H (fun x H1 => ∃ M1 S1 v, Ext M H M1 H1 ∧ SOk p M1 S1 H1 ∧ rep M1 H1 v x ∧ EnvOk p.K M1 H1 ρ σ ∧ PostS p (k v S1) M1 H1 D W) (wAt W σ) := by
  cases r with
  | ok v S => exact fun M1 H1 w e s hr => ⟨M1, S, v, e, s, hr, he.ext e, PostS.ext h e⟩
  | exc c v S => exact fun M1 H1 cls d e s hr => h M1 H1 σ cls d e s (he.ext e) hr
  | bad => exact h
theorem psWeak {st : Stmt} {t t' : TS} (h : PS X st t) (w : ∀ D σ H, t' D σ H → t D σ H) : PS X st t' := ⟨fun pins s σ H D I q => h.run pins s σ H D I (w D σ H q)⟩
theorem pssWeak {st : List Stmt} {t t' : TS} (h : PSs X st t) (w : ∀ D σ H, t' D σ H → t D σ H) : PSs X st t' := ⟨fun pins s σ H D I q => h.run pins s σ H D I (w D σ H q)⟩
theorem PostS.nx {ρ : Env} {σ : L2.St} {D : Ends} (h : PostS p (.nx ρ S) M H D W) (s : SOk p M S H) (e : EnvOk p.K M H ρ σ) : D.nx σ H := h M H σ (Ext.refl _ _) s e
def nopR : EvS := fun ρ S => .nx ρ S
def seqR (r t : EvS) : EvS := fun ρ S => match r ρ S with
    | .nx ρ1 S1 => t ρ1 S1
    | r => r
def asgR (i : Nat) (r : Ev) : EvS := fun ρ S => SR.of (r ρ S) ρ fun v S1 => .nx (ρ.set i (some v)) S1
def expR (r : Ev) : EvS := fun ρ S => SR.of (r ρ S) ρ fun _ S1 => .nx ρ S1
def retR (r : Ev) : EvS := fun ρ S => SR.of (r ρ S) ρ fun v S1 => .rt v S1
def parR (is : List Nat) (rs : Env → Store → R (List PV)) : EvS := fun ρ S => SR.of (rs ρ S) ρ fun xs S1 => if xs.length = is.length then .nx (setAll is xs ρ) S1 else .bad
def unpR (is : List Nat) (r : Ev) : EvS := fun ρ S => SR.of (r ρ S) ρ fun v S1 => match v with
    | .tup xs => if xs.length = is.length then .nx (setAll is xs ρ) S1 else .bad
    | _ => .bad
def stiR (ro ri re : Ev) : EvS := fun ρ S => SR.of (re ρ S) ρ fun v S1 => SR.of (ro ρ S1) ρ fun w S2 => SR.of (ri ρ S2) ρ fun j S3 => match stIdx w j v S3 with
    | some S4 => .nx ρ S4
    | none => .bad
def ifsR (rc : Ev) (rt re : EvS) : EvS := fun ρ S => SR.of ((rc ρ S).bind asB) ρ fun d S1 => match d with
    | true => rt ρ S1
    | false => re ρ S1
def whlR (rc : Ev) (rb : EvS) : EvS := fun ρ S => whGo rc rb WH ρ S
def forR (is : List Nat) (ri : EvI) (rb : EvS) : EvS := fun ρ S => SR.of (ri ρ S) ρ fun w S1 => foGo is rb w.g w.xs ρ S1
theorem s_nop : PSs X [] (tS p nopR W) := pssWeak pss_nil fun D σ H ⟨ρ, M, S, he, hs, q⟩ => PostS.nx q hs he
theorem s_pass : PS X (.Pass pos) (tS p nopR W) := psWeak ps_pass fun D σ H ⟨ρ, M, S, he, hs, q⟩ => PostS.nx q hs he
theorem s_seq {st : Stmt} {rest : List Stmt} {r t : EvS} (h1 : PS X st (tS p r W)) (h2 : PSs X rest (tS p t W)) : PSs X (st :: rest) (tS p (seqR r t) W) := by
  refine pssWeak (pss_cons h1 h2) fun D σ H ⟨ρ, M, S, he, hs, q⟩ => ⟨ρ, M, S, he, hs, ?_⟩
  unfold seqR at q
  cases e : r ρ S with
  | nx ρ1 S1 =>
    rw [e] at q
    exact fun M' H' σ' e1 s1 he1 => ⟨ρ1, M', S1, he1, s1, PostS.ext q e1⟩
  | rt v S1 => rw [e] at q; exact q
  | ex c v ρ1 S1 => rw [e] at q; exact q
  | bad => rw [e] at q; exact q
theorem asgW {i : Nat} {D : Ends} {σ : L2.St} (h : tS p (asgR i ra) W D σ H) : tD p ra W σ H fun x H1 => D.nx (σ.set i (some x)) H1 := by
  obtain ⟨ρ, M, S, he, hs, q⟩ := h
  exact ⟨ρ, M, S, he, hs, (PostS.of (rep := Rep p.K) he q).mono (fun x H1 ⟨M1, S1, v, e1, s1, r1, he1, q1⟩ => PostS.nx q1 s1 (he1.set r1 i)) fun _ _ _ h => h⟩
theorem s_asg {i : Nat} {x : Str} {e : Expr} {pos' : Pos} (hN : X.N.Nodup) (hi : X.N[i]? = some x) (hx : Loc X.env.scope x) (hf : X.fn x = true ∨ X.env.scope.names.lookup x = some .local) (he : PE X e (tD p ra W)) (hs : swapsWith e (some (.Name x pos')) pos.line X.env = pure false) :
    PS X (.Assign [.Name x pos'] e pos) (tS p (asgR i ra) W) := psWeak (ps_set hN hi hx he hs hf) fun D σ H h => asgW h
theorem s_par2 {i j : Nat} {x y : Str} {px py pt : Pos} {kt k2 pt2} {rs : Env → Store → R (List PV)} (hc : X.calm = true) (hN : X.N.Nodup) (hi : X.N[i]? = some x) (hj : X.N[j]? = some y) (hij : i ≠ j)
    (hx : X.env.scope.names.lookup x = some .local) (hy : X.env.scope.names.lookup y = some .local) (ha : PA X [a, b] (tDA p rs W))
    (hw : swappedStores [.Tuple [.Name x px, .Name y py] kt pt] (.Tuple [a, b] k2 pt2) X.env = pure (some [x, y])) :
    PS X (.Assign [.Tuple [.Name x px, .Name y py] kt pt] (.Tuple [a, b] k2 pt2) pos) (tS p (parR [i, j] rs) W) := by
  refine psWeak (ps_par hc hN hi hj hij hx hy ha hw) fun D σ H ⟨ρ, M, S, he, hs, q⟩ => ?_
  refine ⟨ρ, M, S, he, hs, (PostS.of (rep := RepL p.K) he q).mono (fun vs H1 ⟨M1, S1, xs, e1, s1, r1, he1, q1⟩ => ?_) fun _ _ _ h => h⟩
  by_cases hl : xs.length = [i, j].length
  · rw [if_pos hl] at q1
    rcases xs with _ | ⟨u, _ | ⟨v, _ | ⟨v3, l⟩⟩⟩
    · simp at hl
    · simp at hl
    · obtain ⟨w, ws, rfl, r, t⟩ := r1.cons_inv
      obtain ⟨w2, ws2, rfl, r2, t2⟩ := t.cons_inv
      rw [t2.nil_inv]
      exact ⟨w, w2, rfl, PostS.nx q1 s1 ((he1.set r i).set r2 j)⟩
    · simp at hl
  · rw [if_neg hl] at q1; exact q1.elim
theorem s_par3 {i j l : Nat} {x y z : Str} {c : Expr} {px py pz pt : Pos} {kt k2 pt2} {rs : Env → Store → R (List PV)} (hc : X.calm = true) (hN : X.N.Nodup) (hi : X.N[i]? = some x) (hj : X.N[j]? = some y) (hl : X.N[l]? = some z) (hij : i ≠ j) (hil : i ≠ l) (hjl : j ≠ l)
    (hx : X.env.scope.names.lookup x = some .local) (hy : X.env.scope.names.lookup y = some .local) (hz : X.env.scope.names.lookup z = some .local) (ha : PA X [a, b, c] (tDA p rs W))
    (hw : swappedStores [.Tuple [.Name x px, .Name y py, .Name z pz] kt pt] (.Tuple [a, b, c] k2 pt2) X.env = pure (some [x, y, z])) :
    PS X (.Assign [.Tuple [.Name x px, .Name y py, .Name z pz] kt pt] (.Tuple [a, b, c] k2 pt2) pos) (tS p (parR [i, j, l] rs) W) := by
  refine psWeak (ps_par3 hc hN hi hj hl hij hil hjl hx hy hz ha hw) fun D σ H ⟨ρ, M, S, he, hs, q⟩ => ?_
  refine ⟨ρ, M, S, he, hs, (PostS.of (rep := RepL p.K) he q).mono (fun vs H1 ⟨M1, S1, xs, e1, s1, r1, he1, q1⟩ => ?_) fun _ _ _ h => h⟩
  by_cases hl : xs.length = [i, j, l].length
  · rw [if_pos hl] at q1
    rcases xs with _ | ⟨u, _ | ⟨v, _ | ⟨v3, _ | ⟨v4, l⟩⟩⟩⟩
    · simp at hl
    · simp at hl
    · simp at hl
    · obtain ⟨w, ws, rfl, r, t⟩ := r1.cons_inv
      obtain ⟨w2, ws2, rfl, r2, t2⟩ := t.cons_inv
      obtain ⟨w3, ws3, rfl, r3, t3⟩ := t2.cons_inv
      rw [t3.nil_inv]
      exact ⟨w, w2, w3, rfl, PostS.nx q1 s1 (((he1.set r i).set r2 j).set r3 _)⟩
    · simp at hl
  · rw [if_neg hl] at q1; exact q1.elim
theorem sw_tup {e : Expr} {ts : List Expr} {k : Nat} {q : Pos} {l : Nat} {env : PySem.Env} : swapsWithSole [.Tuple ts k q] e l env = pure false := by
  show swapsWith e (some (.Tuple ts k q)) l env = pure false
  unfold swapsWith
  cases e <;> rfl
theorem sw_sub {e o i : Expr} {q : Pos} {l : Nat} {env : PySem.Env} : swapsWithSole [.Subscript o i q] e l env = pure false := by
  show swapsWith e (some (.Subscript o i q)) l env = pure false
  unfold swapsWith
  cases e <;> rfl
theorem s_unp {es : List Expr} {is : List Nat} {k : Nat} {e : Expr} (hc : X.calm = true) (hN : X.N.Nodup) (hn : NamesAt X es is) (hl : 2 ≤ is.length) (he : PE X e (tD p ra W)) (hw : swappedStores [.Tuple es k p2] e X.env = pure none) :
    PS X (.Assign [.Tuple es k p2] e pos) (tS p (unpR is ra) W) := by
  refine psWeak (ps_asg he (s_tgN (p := p) (tup := true) hc hN hn hl) sw_tup hw rfl) fun D σ H ⟨ρ, M, S, he, hs, q⟩ => ?_
  refine ⟨ρ, M, S, he, hs, (PostS.of (rep := Rep p.K) he q).mono (fun v H1 ⟨M1, S1, x, e1, s1, r1, he1, q1⟩ => ?_) fun _ _ _ h => h⟩
  cases x with
  | tup xs =>
    simp only at q1
    by_cases hx : xs.length = is.length
    · rw [if_pos hx] at q1
      refine ⟨M1, ρ, .tup xs, setAll is xs ρ, he1, .inl r1, ?_, fun σ' h' _ => PostS.nx q1 s1 h'⟩
      rcases is with _ | ⟨i, _ | ⟨j, is⟩⟩
      · simp at hl
      · simp at hl
      · show (if xs.length = (i :: j :: is).length then some (setAll (i :: j :: is) xs ρ) else none) = _
        rw [if_pos hx]
    · rw [if_neg hx] at q1; exact q1.elim
  | _ => exact (show False from q1).elim
theorem s_exp {e : Expr} (he : PE X e (tD p ra W)) (hs : swapsWith e none pos.line X.env = pure false) : PS X (.Expr e pos) (tS p (expR ra) W) := by
  refine psWeak (ps_expr he hs) fun D σ H ⟨ρ, M, S, he, hs, q⟩ => ?_
  exact ⟨ρ, M, S, he, hs, (PostS.of (rep := Rep p.K) he q).mono (fun v H1 ⟨M1, S1, x, e1, s1, r1, he1, q1⟩ => PostS.nx q1 s1 he1) fun _ _ _ h => h⟩
theorem s_ret {e : Expr} (he : PE X e (tD p ra W)) : PS X (.Return (some e) pos) (tS p (retR ra) W) := by
  refine psWeak (ps_ret he) fun D σ H ⟨ρ, M, S, he, hs, q⟩ => ?_
  exact ⟨ρ, M, S, he, hs, (PostS.of (rep := Rep p.K) he q).mono (fun v H1 ⟨M1, S1, x, e1, s1, r1, he1, q1⟩ => q1 M1 H1 v (Ext.refl _ _) s1 r1) fun _ _ _ h => h⟩
theorem s_retN : PS X (.Return none pos) (tS p (retR fun _ S => .ok .non S) W) := psWeak ps_retN fun D σ H ⟨ρ, M, S, he, hs, q⟩ => q M H .non (Ext.refl _ _) hs (by unfold Rep; rfl)
theorem s_ifs {c : Expr} {st sf : List Stmt} {rc : Ev} {rt re : EvS} (hc : PT X c (tDT p rc W)) (ht : PSs X st (tS p rt W)) (hf : PSs X sf (tS p re W)) : PS X (.If c st sf pos) (tS p (ifsR rc rt re) W) := by
  refine psWeak (ps_if hc ht hf) fun D σ H ⟨ρ, M, S, he, hs, q⟩ => ?_
  refine ⟨ρ, M, S, he, hs, Post.asT ((PostS.of (rep := repB) he q).mono (fun d H1 ⟨M1, S1, x, e1, s1, r1, he1, q1⟩ => ?_) fun _ _ _ h => h)⟩
  have r1 : x = d := r1
  subst r1
  cases x with
  | true => exact ⟨ρ, M1, S1, he1, s1, q1⟩
  | false => exact ⟨ρ, M1, S1, he1, s1, q1⟩
theorem s_sti {o i e : Expr} {ro ri re : Ev} {q : Pos} (hp : plainIx i = true) (ho : PE X o (tD p ro W)) (hi : PE X i (tD p ri W)) (he : PE X e (tD p re W)) : PS X (.Assign [.Subscript o i q] e pos) (tS p (stiR ro ri re) W) := by
  refine psWeak (ps_asg he (pg_sub ho hi set_list (fun v => by cases i <;> first | rfl | simp [plainIx] at hp)) sw_sub (by unfold swappedStores; rfl) rfl) fun D σ H ⟨ρ, M, S, hE, hs, q⟩ => ?_
  refine ⟨ρ, M, S, hE, hs, (PostS.of (rep := Rep p.K) hE q).mono (fun v H1 ⟨M1, S1, x, e1, s1, r1, he1, q1⟩ => ?_) fun _ _ _ h => h⟩
  refine ⟨ρ, M1, S1, he1, s1, (PostS.of (rep := Rep p.K) he1 q1).mono (fun w H2 ⟨M2, S2, y, e2, s2, r2, he2, q2⟩ => ?_) fun _ _ _ h => h⟩
  refine ⟨ρ, M2, S2, he2, s2, (PostS.of (rep := Rep p.K) he2 q2).mono (fun j H3 ⟨M3, S3, z, e3, s3, r3, he3, q3⟩ => ?_) fun _ _ _ h => h⟩
  have r2' := r2.ext e3
  have r1' := (r1.ext e2).ext e3
  cases y with
  | ptr n =>
    cases z with
    | int k =>
      unfold Rep at r2' r3
      obtain ⟨ad, rfl, hm⟩ := r2'
      subst r3
      have q3 : PostS p (match (match S3[n]? with
        | some (.lst xs) => (match ixN xs.length k with
          | some k => some (S3.set n (.lst (xs.set k x)))
          | none => none)
        | _ => none) with
        | some S4 => SR.nx ρ S4
        | none => .bad) M3 H3 D W := q3
      obtain ⟨xs, hS⟩ : ∃ xs, S3[n]? = some (.lst xs) := by
        cases e : S3[n]? with
        | none => rw [e] at q3; exact (show False from q3).elim
        | some o => cases o with
          | lst xs => exact ⟨xs, rfl⟩
          | dis kvs => rw [e] at q3; exact (show False from q3).elim
      obtain ⟨vs, hv, rl⟩ := s3.at_ hm hS
      rw [hS] at q3
      simp only at q3
      cases ek : ixN xs.length k with
      | none => rw [ek] at q3; exact (show False from q3).elim
      | some m =>
        rw [ek] at q3
        refine ⟨ad, vs, k, m, rfl, rfl, hv, by rw [← rl.length]; exact ek, ?_⟩
        have E : Ext M3 H3 M3 (upd H3 ad (.lst (vs.set m v))) := Ext.chg s3 hm
        exact q3 M3 _ σ E (s3.chg hm hv (rl.set m r1')) (he3.ext E)
    | _ => exact (show False from q3).elim
  | _ => cases z <;> exact (show False from q3).elim
def st2R (ro ri ro2 ri2 re : Ev) : EvS := fun ρ S => SR.of (re ρ S) ρ fun v S1 => match v with
    | .tup [x, y] => SR.of (ro ρ S1) ρ fun w S2 => SR.of (ri ρ S2) ρ fun j S3 => match stIdx w j x S3 with
      | some S4 => SR.of (ro2 ρ S4) ρ fun w2 S5 => SR.of (ri2 ρ S5) ρ fun j2 S6 => match stIdx w2 j2 y S6 with
        | some S7 => .nx ρ S7
        | none => .bad
      | none => .bad
    | _ => .bad
theorem sw_two {o i o2 i2 e : Expr} {q q2 : Pos} {k : Nat} {env : PySem.Env} : swappedStores [.Tuple [.Subscript o i q, .Subscript o2 i2 q2] k p2] e env = pure none := by
  unfold swappedStores
  cases e with
  | Tuple vs k2 p3 =>
    simp only [List.length_cons, List.length_nil, List.filterMap_cons, List.filterMap_nil]
    split
    · rfl
    split
    · rfl
    · rfl
  | _ => rfl
/-- o[i] = x of a mutable list -/
theorem set_ptr {w j x : PV} {M3 : Ms} {H3 : Hp} {S3 : Store} {cw cj v : V} {S4 : Store} (s3 : SOk p M3 S3 H3) (r2 : Rep p.K M3 H3 w cw) (r3 : Rep p.K M3 H3 j cj) (r1 : Rep p.K M3 H3 x v) (h : stIdx w j x S3 = some S4) :
    ∃ ad vs k m, cw = .ref ad ∧ cj = .int k ∧ H3 ad = some (.lst vs) ∧ ixN vs.length k = some m ∧ Ext M3 H3 M3 (upd H3 ad (.lst (vs.set m v))) ∧ SOk p M3 S4 (upd H3 ad (.lst (vs.set m v))) := by
  cases w with
  | ptr n =>
    cases j with
    | int k =>
      unfold Rep at r2 r3
      obtain ⟨ad, rfl, hm⟩ := r2
      subst r3
      have h : (match S3[n]? with
        | some (.lst xs) => (match ixN xs.length k with
          | some k => some (S3.set n (.lst (xs.set k x)))
          | none => none)
        | _ => none) = some S4 := h
      obtain ⟨xs, hS⟩ : ∃ xs, S3[n]? = some (.lst xs) := by
        cases e : S3[n]? with
        | none => rw [e] at h; cases h
        | some o => cases o with
          | lst xs => exact ⟨xs, rfl⟩
          | dis kvs => rw [e] at h; cases h
      obtain ⟨vs, hv, rl⟩ := s3.at_ hm hS
      rw [hS] at h
      simp only at h
      cases ek : ixN xs.length k with
      | none => rw [ek] at h; cases h
      | some m =>
        rw [ek] at h
        cases h
        exact ⟨ad, vs, k, m, rfl, rfl, hv, by rw [← rl.length]; exact ek, Ext.chg s3 hm, s3.chg hm hv (rl.set m r1)⟩
    | _ => exact absurd h (fun z => nomatch z)
  | _ => cases j <;> exact absurd h (fun z => nomatch z)
theorem s_st2 {o i o2 i2 e : Expr} {ro ri ro2 ri2 re : Ev} {q q2 : Pos} {k : Nat} (hK : X.K = p.K) (hc : X.calm = true) (hp : plainIx i = true) (hp2 : plainIx i2 = true) (ho : PE X o (tD p ro W)) (hi : PE X i (tD p ri W)) (ho2 : PE X o2 (tD p ro2 W)) (hi2 : PE X i2 (tD p ri2 W)) (he : PE X e (tD p re W)) :
    PS X (.Assign [.Tuple [.Subscript o i q, .Subscript o2 i2 q2] k p2] e pos) (tS p (st2R ro ri ro2 ri2 re) W) := by
  refine psWeak (ps_asg he (pg_tup hc (pgs_cons (pg_sub ho hi set_list (fun v => by cases i <;> first | rfl | simp [plainIx] at hp)) (pgs_cons (pg_sub ho2 hi2 set_list (fun v => by cases i2 <;> first | rfl | simp [plainIx] at hp2)) pgs_nil rfl) rfl) rfl rfl) sw_tup sw_two rfl) fun D σ H ⟨ρ, M, S, hE, hs, q0⟩ => ?_
  refine ⟨ρ, M, S, hE, hs, (PostS.of (rep := Rep p.K) hE q0).mono (fun v H1 ⟨M1, S1, z, e1, s1, r1, he1, q1⟩ => ?_) fun _ _ _ h => h⟩
  cases z with
  | tup zs =>
    rcases zs with _ | ⟨x, _ | ⟨y, _ | ⟨z3, l⟩⟩⟩
    · exact (show False from q1).elim
    · exact (show False from q1).elim
    · unfold Rep at r1
      obtain ⟨qa, vs, rfl, ht, rl⟩ := r1
      obtain ⟨vx, ws, rfl, rx, rw_⟩ : ∃ w ws', vs = w :: ws' ∧ Rep p.K M1 H1 x w ∧ RepL p.K M1 H1 [y] ws' := rl
      obtain ⟨vy, rfl, ry⟩ := RepL.one (xs := []) rw_
      refine ⟨qa, [vx, vy], rfl, by rw [hK]; exact ht.sq, rfl, vx, [vy], rfl, ?_⟩
      refine ⟨ρ, M1, S1, he1, s1, (PostS.of (rep := Rep p.K) he1 q1).mono (fun w H2 ⟨M2, S2, w', e2, s2, r2, he2, q2⟩ => ?_) fun _ _ _ h => h⟩
      refine ⟨ρ, M2, S2, he2, s2, (PostS.of (rep := Rep p.K) he2 q2).mono (fun j H3 ⟨M3, S3, j', e3, s3, r3, he3, q3⟩ => ?_) fun _ _ _ h => h⟩
      cases es : stIdx w' j' x S3 with
      | none => rw [es] at q3; exact (show False from q3).elim
      | some S4 =>
        rw [es] at q3
        simp only at q3
        obtain ⟨ad, vs, kk, m, rfl, rfl, hv, hx, E, s4⟩ := set_ptr s3 (r2.ext e3) r3 ((rx.ext e2).ext e3) es
        refine ⟨ad, vs, kk, m, rfl, rfl, hv, hx, ?_⟩
        refine ⟨vy, [], rfl, ?_⟩
        have he4 := he3.ext E
        have q3 := PostS.ext q3 E
        refine ⟨ρ, M3, S4, he4, s4, (PostS.of (rep := Rep p.K) he4 q3).mono (fun w H5 ⟨M5, S5, w5, e5, s5, r5, he5, q5⟩ => ?_) fun _ _ _ h => h⟩
        refine ⟨ρ, M5, S5, he5, s5, (PostS.of (rep := Rep p.K) he5 q5).mono (fun j H6 ⟨M6, S6, j6, e6, s6, r6, he6, q6⟩ => ?_) fun _ _ _ h => h⟩
        cases es2 : stIdx w5 j6 y S6 with
        | none => rw [es2] at q6; exact (show False from q6).elim
        | some S7 =>
          rw [es2] at q6
          simp only at q6
          obtain ⟨ad2, vs2, kk2, m2, rfl, rfl, hv2, hx2, E2, s7⟩ := set_ptr s6 (r5.ext e6) r6 (((((ry.ext e2).ext e3).ext E).ext e5).ext e6) es2
          exact ⟨ad2, vs2, kk2, m2, rfl, rfl, hv2, hx2, rfl, q6 M6 _ σ E2 s7 (he6.ext E2)⟩
    · exact (show False from q1).elim
  | _ => exact (show False from q1).elim
theorem s_whl {c : Expr} {body : List Stmt} {rc : Ev} {rb : EvS} (hp : PassesOwn (model X.prog X.w) X.A X.env X.xe) (hc : PT X c (tDT p rc W)) (hb : PSs X body (tS p rb W)) : PS X (.While c body [] pos) (tS p (whlR rc rb) W) := by
  refine psWeak (ps_while hp hc hb) fun D σ H ⟨ρ, M, S, he, hs, q⟩ => ?_
  refine ⟨fun m σ H => ∃ ρ M S, EnvOk p.K M H ρ σ ∧ SOk p M S H ∧ PostS p (whGo rc rb m ρ S) M H D W, ⟨WH, ρ, M, S, he, hs, q⟩, ?_⟩
  rintro m σ H ⟨ρ, M, S, he, hs, q⟩
  cases m with
  | zero => exact (show False from q).elim
  | succ m =>
    refine ⟨ρ, M, S, he, hs, ?_⟩
    unfold whGo at q
    refine Post.asT ?_
    cases e : (rc ρ S).bind asB with
    | ok d S1 =>
      rw [e] at q
      intro M1 H1 d' e1 s1 rd
      have rd : d = d' := rd
      subst rd
      cases d with
      | true =>
        simp only at q
        refine ⟨fun σ' H' => ∃ ρ M S, EnvOk p.K M H' ρ σ' ∧ SOk p M S H' ∧ PostS p (whGo rc rb m ρ S) M H' D W, fun σ' H' h => ⟨m, Nat.lt_succ_self _, h⟩, ρ, M1, S1, he.ext e1, s1, ?_⟩
        cases e2 : rb ρ S1 with
        | nx ρ2 S2 =>
          rw [e2] at q
          exact fun M2 H2 σ2 e3 s2 he2 => ⟨ρ2, M2, S2, he2, s2, PostS.ext q (e1.trans e3)⟩
        | rt v S2 => rw [e2] at q; exact PostS.ext (r := .rt v S2) q e1
        | ex cc v ρ2 S2 => rw [e2] at q; exact PostS.ext (r := .ex cc v ρ2 S2) q e1
        | bad => rw [e2] at q; exact q
      | false =>
        simp only at q
        exact PostS.nx (PostS.ext q e1) s1 (he.ext e1)
    | exc cc v S1 =>
      rw [e] at q
      exact fun M1 H1 cls d e1 s1 hr => q M1 H1 σ cls d e1 s1 (he.ext e1) hr
    | bad => rw [e] at q; exact q
theorem s_for {iter tg : Expr} {body : List Stmt} {is : List Nat} {ri : EvI} {rb : EvS} (hp : PassesOwn (model X.prog X.w) X.A X.env X.xe) (hc : X.calm = true) (hi : PI X tg iter (tDI p tup ri W)) (hg : PG X tg (tgD p tup is)) (hb : PSs X body (tS p rb W))
    (hs : ∀ x, foldedSetIterable iter X.env x = pure x) : PS X (.For tg iter body [] pos) (tS p (forR is ri rb) W) := by
  refine psWeak (ps_for hp hc hi hg hb hs) fun D σ H ⟨ρ, M, S, he, hs, q⟩ => ?_
  refine ⟨ρ, M, S, he, hs, (PostS.of (rep := repI p tup) he q).mono (fun J H1 ⟨M1, S1, ⟨xs, g⟩, e1, s1, ⟨hz, y⟩, he1, q1⟩ => ?_) fun _ _ _ h => h⟩
  refine ⟨fun i m σ H => i + m = xs.length ∧ ∃ ρ M S, Kp M1 H1 M H ∧ EnvOk p.K M H ρ σ ∧ SOk p M S H ∧ PostS p (foGo is rb g (xs.drop i) ρ S) M H D W, ⟨xs.length, Nat.zero_add _, ρ, M1, S1, Kp.refl _ _, he1, s1, q1⟩, ?_⟩
  rintro i m σ H ⟨him, ρ, M, S, kp, he, hs, q⟩
  cases hx : xs[i]? with
  | none =>
    have hi : xs.length ≤ i := List.getElem?_eq_none_iff.mp hx
    rw [List.drop_eq_nil_of_le hi] at q
    unfold foGo at q
    split at q
    · rename_i hgk
      exact .inl ⟨(y M H S kp hs hgk i).1 hi, PostS.nx q hs he⟩
    · exact (show False from q).elim
  | some x =>
    have hi : i < xs.length := (List.getElem?_eq_some_iff.mp hx).1
    rw [drop_cons hx] at q
    unfold foGo at q
    by_cases hgk : gk g S = true
    case neg => rw [if_neg hgk] at q; exact (show False from q).elim
    rw [if_pos hgk] at q
    obtain ⟨hgo, hy⟩ := (y M H S kp hs hgk i).2 x hx
    refine .inr ⟨hgo, _, fun σ' H' h => ⟨m - 1, by omega, h⟩, fun v H' hyv => ?_⟩
    obtain ⟨e2, s2, ri'⟩ := hy v H' hyv
    cases et : tgSet is x ρ with
    | none => rw [et] at q; exact (show False from q).elim
    | some ρ1 =>
      rw [et] at q
      simp only at q
      refine ⟨M, ρ, x, ρ1, he.ext e2, ri', et, fun σ3 he3 _ => ⟨ρ1, M, S, he3, s2, ?_⟩⟩
      cases eb : rb ρ1 S with
      | nx ρ2 S2 =>
        rw [eb] at q
        exact fun M3 H3 σ4 e3 s3 he4 => ⟨by omega, ρ2, M3, S2, (kp.trans e2.kpp).trans e3.kpp, he4, s3, PostS.ext q (e2.trans e3)⟩
      | rt v S2 => rw [eb] at q; exact PostS.ext (r := .rt v S2) q e2
      | ex cc v ρ2 S2 => rw [eb] at q; exact PostS.ext (r := .ex cc v ρ2 S2) q e2
      | bad => rw [eb] at q; exact q
/-- a mutable list is walked as it stands -/
def repPtr (X : Cx) : Ms → Hp → Nat → It → Prop := fun M _ m J => ∃ q, M.l[m]? = some q ∧ J = Itl X.K q
def folR (is : List Nat) (r : Ev) (rb : EvS) : EvS := fun ρ S => SR.of (r ρ S) ρ fun v S1 => match v with
    | .ptr m => folGo is rb m WH 0 ρ S1
    | _ => .bad
theorem isLst_get {n : Nat} (h : isLst S n = true) : ∃ xs, S[n]? = some (.lst xs) := by
  unfold isLst at h
  split at h
  · rename_i xs e; exact ⟨xs, e⟩
  · cases h
theorem SOk.lst {m : Nat} {q : Addr} (s : SOk p M S H) (h : M.l[m]? = some q) (hg : isLst S m = true) : ∃ xs vs, S[m]? = some (.lst xs) ∧ H q = some (.lst vs) ∧ RepL p.K M H xs vs := by
  obtain ⟨xs, hS⟩ := isLst_get hg
  obtain ⟨vs, hv, rl⟩ := s.at_ h hS
  exact ⟨xs, vs, hS, hv, rl⟩
def ptrR (r : Ev) : Env → Store → R Nat := fun ρ S => (r ρ S).bind fun x S1 => match x with
    | .ptr m => if isLst S1 m then .ok m S1 else .bad
    | _ => .bad
theorem s_iptr {tg : Expr} (ha : PE X a (tD p ra W)) : PI X tg a (fun σ H R => ∃ ρ M S, EnvOk p.K M H ρ σ ∧ SOk p M S H ∧ Post p (repPtr X) (ptrR ra ρ S) M H R (wAt W σ)) := by
  refine ⟨fun pins s σ H R I ⟨ρ, M, S, he, hs, q⟩ => ?_⟩
  refine one (rep := repPtr X) (k := fun _ x S1 => match x with
    | .ptr m => if isLst S1 m then .ok m S1 else .bad
    | _ => .bad) ha ⟨I, he, hs⟩ q fun u s1 x v M1 S1 H1 e1 A1 rp rv q1 => ?_
  have I1 := A1.inv
  have fp1 : ∀ b ∈ [s1.heap.objs.size], FpOk X pins H1 b := fun b hb => by
    have e : b = s1.heap.objs.size := by simpa using hb
    subst e
    exact I1.fpOk (Nat.le_refl _) (I1.hok.fresh (Nat.le_refl _))
  cases x with
  | ptr m =>
    unfold Rep at rp
    obtain ⟨q, rfl, hm⟩ := rp
    have hg : isLst S1 m = true := by
      cases e : isLst S1 m with
      | true => rfl
      | false => simp only [e, Bool.false_eq_true, if_false] at q1; exact (show False from q1).elim
    simp only [hg, if_true] at q1
    obtain ⟨xs, vs, hS, hv, rl⟩ := A1.ok.lst hm hg
    cases rv
    obtain ⟨its, rv, p', hz⟩ := I1.list (xs := vs) (.of hv)
    refine wpAny_pyIter_list p'.isList ?_
    exact ⟨s1.heap.objs.size, [s1.heap.objs.size], _, _, H1, rfl, I1.kept (t' := s1.toks) fun b o e => Heap.get?_push_of_some _ e, turn_list q _, ⟨_, Heap.get?_push_size _ rfl, rfl, rfl⟩, fp1, q1.done A1.ok ⟨q, hm, rfl⟩⟩
  | _ => exact (show False from q1).elim
theorem folGo_no {is : List Nat} {rb : EvS} {m f i : Nat} {ρ : Env} (h : isLst S m = false) : folGo is rb m f i ρ S = .bad := by
  cases f with
  | zero => rfl
  | succ f =>
    unfold folGo
    unfold isLst at h
    split
    · rename_i xs e; rw [e] at h; cases h
    · rfl
theorem of_folR {is : List Nat} {rb : EvS} {ρ : Env} {σ : L2.St} {D : Ends} (h : PostS p (folR is ra rb ρ S) M H D W) : PostS p (SR.of (ptrR ra ρ S) ρ fun m S1 => folGo is rb m WH 0 ρ S1) M H D W := by
  unfold folR at h
  unfold ptrR
  cases e : ra ρ S with
  | ok v S1 =>
    rw [e] at h
    cases v with
    | ptr m =>
      cases e2 : isLst S1 m with
      | true =>
        show PostS p (SR.of (if isLst S1 m then R.ok m S1 else R.bad) ρ fun m S1 => folGo is rb m WH 0 ρ S1) M H D W
        rw [e2]
        exact h
      | false =>
        have h : PostS p (folGo is rb m WH 0 ρ S1) M H D W := h
        rw [folGo_no e2] at h
        exact (show False from h).elim
    | _ => exact (show False from h).elim
  | exc c v S1 => rw [e] at h; exact h
  | bad => rw [e] at h; exact h
theorem s_fol {iter tg : Expr} {body : List Stmt} {is : List Nat} {rb : EvS} (hK : X.K = p.K) (hp : PassesOwn (model X.prog X.w) X.A X.env X.xe) (hc : X.calm = true) (hi : PE X iter (tD p ra W)) (hg : PG X tg (tgD p tup is)) (hb : PSs X body (tS p rb W))
    (hs : ∀ x, foldedSetIterable iter X.env x = pure x) : PS X (.For tg iter body [] pos) (tS p (folR is ra rb) W) := by
  refine psWeak (ps_for hp hc (s_iptr hi) hg hb hs) fun D σ H ⟨ρ, M, S, he, hs, q0⟩ => ?_
  have q := of_folR (σ := σ) q0
  refine ⟨ρ, M, S, he, hs, (PostS.of (rep := repPtr X) he q).mono (fun J H1 ⟨M1, S1, m, e1, s1, ⟨qa, hm1, hJ⟩, he1, q1⟩ => ?_) fun _ _ _ h => h⟩
  subst hJ
  refine ⟨fun i f σ H => ∃ ρ M S, M.l[m]? = some qa ∧ EnvOk p.K M H ρ σ ∧ SOk p M S H ∧ PostS p (folGo is rb m f i ρ S) M H D W, ⟨WH, ρ, M1, S1, hm1, he1, s1, q1⟩, ?_⟩
  rintro i f σ H ⟨ρ, M, S, hm, he, hs, q⟩
  cases f with
  | zero => exact (show False from q).elim
  | succ f =>
    have hg : isLst S m = true := by
      cases e : isLst S m with
      | true => rfl
      | false => rw [folGo_no e] at q; exact (show False from q).elim
    obtain ⟨xs, vs, hS, hv, rl⟩ := hs.lst hm hg
    unfold folGo at q
    rw [hS] at q
    simp only at q
    cases hx : xs[i]? with
    | none =>
      rw [hx] at q
      exact .inl ⟨⟨vs, .of hv, by rw [← rl.length]; exact List.getElem?_eq_none_iff.mp hx⟩, PostS.nx q hs he⟩
    | some x =>
      rw [hx] at q
      simp only at q
      obtain ⟨w, hw, rw'⟩ := rl.get hx
      refine .inr ⟨⟨vs, w, .of hv, hw⟩, _, fun σ' H' h => ⟨f, Nat.lt_succ_self _, h⟩, fun v H' ⟨e1, e2⟩ => ?_⟩
      subst e1
      have := e2 vs (.of hv)
      rw [hw] at this
      cases this
      cases et : tgSet is x ρ with
      | none => rw [et] at q; exact (show False from q).elim
      | some ρ1 =>
        rw [et] at q
        simp only at q
        refine ⟨M, ρ, x, ρ1, he, .inl rw', et, fun σ3 he3 _ => ⟨ρ1, M, S, he3, hs, ?_⟩⟩
        cases eb : rb ρ1 S with
        | nx ρ2 S2 =>
          rw [eb] at q
          exact fun M3 H3 σ4 e3 s3 he4 => ⟨ρ2, M3, S2, e3.at_ hm, he4, s3, PostS.ext q e3⟩
        | rt v S2 => rw [eb] at q; exact q
        | ex cc v ρ2 S2 => rw [eb] at q; exact q
        | bad => rw [eb] at q; exact q
end G
set_option maxHeartbeats 1000000
namespace G
open PySem PySem.Spec PyProof.Rows L2
variable {p : Pm} {X : Cx} {W : WX} {M : Ms} {H : Hp} {S : Store} {a b c : Expr} {ra rb rc : Ev} {pos p2 p3 : Pos} {tup : Bool}
theorem s_iteT (hc : PT X c (tDT p rc W)) (ha : PT X a (tDT p ra W)) (hb : PT X b (tDT p rb W)) : PT X (.IfExp c a b pos) (tDT p (iteR rc ra rb) W) := by
  refine ptOf fun pins s σ H ρ M S Q A q => ?_
  unfold iteR at q
  rw [G.bind_assoc] at q
  show wpAny _ _ (do if ← isTrue c X.env (eval c X.env) then isTrue a X.env (eval a X.env) else isTrue b X.env (eval b X.env)) _ _ s
  refine wpAny_bind (oneT (rep := repB) (k := fun ρ d S1 => (match d with | true => ra ρ S1 | false => rb ρ S1).bind asT) hc A q fun d s1 M1 S1 H1 e1 A1 q1 => ?_)
  cases d with
  | true => exact ha.run pins s1 σ H1 Q A1.inv ⟨ρ, M1, S1, A1.env, A1.ok, q1⟩
  | false => exact hb.run pins s1 σ H1 Q A1.inv ⟨ρ, M1, S1, A1.env, A1.ok, q1⟩
def priR (pr : Pr) (rs : Env → Store → R (List PV)) : Ev := fun ρ S => (rs ρ S).bind fun xs S1 => pri pr xs S1
/-- a built-in called by its name -/
theorem s_pri {pr : Pr} {x : Str} {fv : Value} {e : Expr} {es : List Expr} {rs : Env → Store → R (List PV)} (hf : (∃ n, fv = .builtin n) ∨ ∃ n, fv = .type n) (hg : Gl X x) (hm : X.mg x = none) (hv : bootBuiltins x = some fv) (hc : CallP p X fv pr) (ha : PA X (e :: es) (tDA p rs W)) (hs : (e :: es).all notStar = true)
    (hn : x ≠ "__name__") (hd : (x == ("__debug__" : Str)) = false) : PE X (.Call (.Name x p2) (e :: es) [] pos) (tD p (priR pr rs) W) := by
  refine peOf fun pins s σ H ρ M S Q A q => ?_
  rw [List.all_cons, Bool.and_eq_true] at hs
  have hst := star_not (env := X.env) hs.1 es
  have hpl : (backTo pos (starEach es X.env)).any (·.1) = false := any_star hs.2
  have hA := oneA (pos := pos) (k := fun _ xs S2 => pri pr xs S2) ha A q (Qf := fun us s2 => wpAny (model X.prog X.w) X.A (call fv us) (EP X pins σ Q) X.xe s2) fun us s2 xs vs M2 S2 H2 e2 A2 rp2 rv2 q2 => hc pins s2 σ ρ M2 S2 H2 xs vs us Q _ A2 rp2 rv2 q2
  refine Call_ (ld_blt A.inv hg hm hv ?_ hn hd)
  rcases hf with ⟨n, rfl⟩ | ⟨n, rfl⟩
  · rw [hst] at hA ⊢
    exact Calls.callWith_builtin (by show (false || (backTo pos (starEach es X.env)).any (·.1)) = false; rw [hpl] <;> rfl) (Calls.evalArgs_plain hA)
  · exact PyProof.Rows.callWith_type1 hA hst hpl
theorem s_isi {k : Kd} {x y : Str} (hK : X.K = p.K) (hg : Gl X x) (hm : X.mg x = none) (hx : x = ("isinstance" : Str)) (hg2 : Gl X y) (hm2 : X.mg y = none) (hy : bootBuiltins y = some (.type (kdN k))) (hn : y ≠ "__name__") (hd : (y == ("__debug__" : Str)) = false) (hs : notStar a = true) (ha : PE X a (tD p ra W)) :
    PE X (.Call (.Name x p2) [a, .Name y p3] [] pos) (tD p (priR (.isi k) (consR ra fun _ S => .ok [] S)) W) := by
  refine peOf fun pins s σ H ρ M S Q A q => ?_
  have q : Post p (Rep p.K) ((ra ρ S).bind fun x S1 => pri (.isi k) [x] S1) M H Q (wAt W σ) := by
    unfold priR consR at q
    rw [G.bind_assoc] at q
    exact q
  subst hx
  have hst := star_not (env := X.env) hs [.Name y p3]
  refine Call_ (ld_blt A.inv hg hm boot_isinstance ?_ (by decide) (by decide))
  rw [hst]
  refine Calls.callWith_builtin rfl (Calls.evalArgs_plain ?_)
  show wpAny _ _ (spliced ((false, eval a X.env) :: backTo pos [(false, eval (.Name y p3) X.env)])) _ _ s
  refine Calls.spliced_cons (one (k := fun _ x S1 => pri (.isi k) [x] S1) ha A q fun u s1 x v M1 S1 H1 e1 A1 rp rv q1 => ?_)
  refine Calls.spliced_cons (ld_blt A1.inv hg2 hm2 hy ?_ hn hd)
  exact Calls.spliced_nil (cp_isi hK k pins s1 σ ρ M1 S1 H1 x v u Q _ A1 rp rv q1)
theorem ints_rep {K : PySem.W.Frag} {M : Ms} {H : Hp} : ∀ is : List Int, RepL K M H (is.map .int) (is.map V.int)
  | [] => .nil
  | i :: is => .cons rep_int (ints_rep is)
theorem mem_insI (x k : Int) : ∀ l : List Int, k ∈ insI x l ↔ k = x ∨ k ∈ l
  | [] => by simp [insI]
  | y :: r => by
    unfold insI
    split
    · simp
    · split
      · rename_i h; subst h; simp
      · rw [List.mem_cons, mem_insI x k r, List.mem_cons]
        constructor
        · rintro (h | h | h)
          · exact .inr (.inl h)
          · exact .inl h
          · exact .inr (.inr h)
        · rintro (h | h | h)
          · exact .inr (.inl h)
          · exact .inl h
          · exact .inr (.inr h)
theorem insI_pw (x : Int) : ∀ l : List Int, l.Pairwise (· < ·) → (insI x l).Pairwise (· < ·)
  | [], _ => List.pairwise_singleton _ _
  | y :: r, h => by
    obtain ⟨h1, h2⟩ := List.pairwise_cons.mp h
    unfold insI
    split
    · rename_i hx
      refine List.pairwise_cons.mpr ⟨fun z hz => ?_, h⟩
      rcases List.mem_cons.mp hz with rfl | hz
      · exact hx
      · have := h1 z hz; omega
    · split
      · exact h
      · refine List.pairwise_cons.mpr ⟨fun z hz => ?_, insI_pw x r h2⟩
        rcases (mem_insI x z r).mp hz with rfl | hz
        · omega
        · exact h1 z hz
theorem sortI_pw : ∀ l : List Int, (sortI l).Pairwise (· < ·)
  | [] => List.Pairwise.nil
  | x :: r => insI_pw x _ (sortI_pw r)
theorem mem_sortI (k : Int) : ∀ l : List Int, k ∈ sortI l ↔ k ∈ l
  | [] => Iff.rfl
  | x :: r => by
    unfold sortI
    rw [mem_insI, mem_sortI k r, List.mem_cons]
theorem pw_uniq : ∀ {a b : List Int}, a.Pairwise (· < ·) → b.Pairwise (· < ·) → (∀ k, k ∈ a ↔ k ∈ b) → a = b
  | [], [], _, _, _ => rfl
  | [], y :: b, _, _, h => absurd ((h y).mpr List.mem_cons_self) (by simp)
  | x :: a, [], _, _, h => absurd ((h x).mp List.mem_cons_self) (by simp)
  | x :: a, y :: b, ha, hb, h => by
    obtain ⟨a1, a2⟩ := List.pairwise_cons.mp ha
    obtain ⟨b1, b2⟩ := List.pairwise_cons.mp hb
    have e : x = y := by
      rcases List.mem_cons.mp ((h x).mp List.mem_cons_self) with e | e
      · exact e
      · rcases List.mem_cons.mp ((h y).mpr List.mem_cons_self) with e' | e'
        · exact e'.symm
        · have := a1 y e'; have := b1 x e; omega
    subst e
    rw [pw_uniq a2 b2 fun k => ?_]
    constructor
    · intro hk
      rcases List.mem_cons.mp ((h k).mp (List.mem_cons_of_mem _ hk)) with e | e
      · have := a1 k hk; omega
      · exact e
    · intro hk
      rcases List.mem_cons.mp ((h k).mpr (List.mem_cons_of_mem _ hk)) with e | e
      · have := b1 k hk; omega
      · exact e
theorem sset_call (hK : X.K = p.K) (hc : X.calm = true) {pins : List (Addr × Obj)} {s : Shared} {σ : L2.St} {ρ : Env} {M : Ms} {S : Store} {H : Hp} {x : PV} {v : V} {u : Value} {Q : VK} {W' : XK} {Qf : Value → Shared → Prop} (A : At p X pins σ s ρ M S H) (r : Rep p.K M H x v) (rv : RelV v u)
    (q : Post p (Rep p.K) (pri .sortset [x] S) M H Q W') (hf : ∀ w s2, wpAny (model X.prog X.w) X.A (call (.builtin "sorted") [w]) (EP X pins σ Q) X.xe s2 → Qf w s2) : wpAny (model X.prog X.w) X.A (call (.type "set") [u]) Qf X.xe s := by
  cases x with
  | tup xs =>
    have q' : Post p (Rep p.K) (match allI xs with
      | some is => if is.length < 60 then rok (.lst ((sortI is).map .int)) S else .bad
      | none => .bad) M H Q W' := q
    cases ea : allI xs with
    | none => rw [ea] at q'; exact (show False from q').elim
    | some is =>
      rw [ea] at q'
      simp only at q'
      by_cases hl : is.length < 60
      case neg => rw [if_neg hl] at q'; exact (show False from q').elim
      rw [if_pos hl] at q'
      have e1 := allI_some ea
      subst e1
      unfold Rep at r
      obtain ⟨l, ws, rfl, ht, rl⟩ := r
      have e2 := rep_intsI rl
      subst e2
      cases rv
      obtain ⟨its, r1, pt, hz⟩ := A.inv.tuple (ht.sq (K := X.K))
      refine call_set_tupI is (A.inv.ok.hd hc) (items := its.toArray) pt (Vals.ints r1) (by show is.length + 1 < 4096; omega) fun h' tk c R hcl kp => hf _ _ ?_
      have I1 : Inv X pins σ H { s with heap := h', toks := tk } := A.inv.kept (t' := tk) kp
      refine sorted_set R (A.inv.ok.hd hc) (by omega) fun s' p2 out c ns k g o hp hg hi hs hm hl2 => ?_
      have en : ns = sortI is := pw_uniq hs (sortI_pw is) fun k => by rw [hm, mem_sortI]; simp
      have hlen : (ns.map V.int).length ≤ sizeLine := by rw [List.length_map, hl2, sizeLine_eq]; omega
      have hn : H p2 = none := I1.hok.fresh hp
      have J : Inv X pins σ (upd H p2 (.lst (ns.map V.int))) { s with heap := s'.heap, gens := s'.gens, drawn := s'.drawn, toks := s'.toks } :=
        Inv.call (s := ({ s with heap := h', toks := tk } : Shared)) (ch := []) I1 (Un.laid k hp hn) (I1.hok.laid k hp ⟨hlen, out.toList, c, vals_of_ints hi, hg⟩) (by rw [g]; exact I1.bare) (fun _ z => nomatch z)
      have e : s' = { s with heap := s'.heap, gens := s'.gens, drawn := s'.drawn, toks := s'.toks } := by
        cases s'
        cases s
        cases o
        rfl
      rw [e]
      refine ⟨.ref p2, _, J, rfl, ?_⟩
      subst en
      exact fin_new q' A.ok hn (new_lst (s := A.ok) hn (ints_rep _))
  | _ => exact (show False from q).elim
theorem s_sset {x y : Str} (hK : X.K = p.K) (hc : X.calm = true) (hg : Gl X x) (hm : X.mg x = none) (hx : x = ("sorted" : Str)) (hg2 : Gl X y) (hm2 : X.mg y = none) (hy : y = ("set" : Str)) (hs : notStar a = true) (ha : PE X a (tD p ra W)) :
    PE X (.Call (.Name x p2) [.Call (.Name y p3) [a] [] p4] [] pos) (tD p (priR .sortset (consR ra fun _ S => .ok [] S)) W) := by
  refine peOf fun pins s σ H ρ M S Q A q => ?_
  have q : Post p (Rep p.K) ((ra ρ S).bind fun x S1 => pri .sortset [x] S1) M H Q (wAt W σ) := by
    unfold priR consR at q
    rw [G.bind_assoc] at q
    exact q
  subst hx hy
  have hst := star_not (env := X.env) (e := .Call (.Name ("set" : Str) p3) [a] [] p4) rfl []
  have hst2 := star_not (env := X.env) hs []
  refine Call_ (ld_blt A.inv hg hm (show bootBuiltins ("sorted" : Str) = some (.builtin "sorted") by decide +kernel) ?_ (by decide) (by decide))
  rw [hst]
  refine Calls.callWith_builtin rfl (Calls.evalArgs_plain ?_)
  show wpAny _ _ (spliced ((false, eval (.Call (.Name ("set" : Str) p3) [a] [] p4) X.env) :: backTo pos [])) _ _ s
  refine Calls.spliced_cons (Call_ (ld_blt A.inv hg2 hm2 (show bootBuiltins ("set" : Str) = some (.type "set") by decide +kernel) ?_ (by decide) (by decide)))
  refine PyProof.Rows.callWith_type1 ?_ hst2 rfl
  rw [hst2]
  show wpAny _ _ (spliced ((false, eval a X.env) :: backTo p4 [])) _ _ s
  refine Calls.spliced_cons (one (k := fun _ x S1 => pri .sortset [x] S1) ha A q fun u s1 x v M1 S1 H1 e1 A1 rp rv q1 => ?_)
  exact Calls.spliced_nil (sset_call hK hc A1 rp rv q1 fun w s2 h => Calls.spliced_nil h)
theorem s_neg (ha : PE X a (tD p ra W)) : PE X (.UnaryOp .USub a pos) (tD p (priR .neg (consR ra fun _ S => .ok [] S)) W) := by
  refine peOf fun pins s σ H ρ M S Q A q => ?_
  have q : Post p (Rep p.K) ((ra ρ S).bind fun x S1 => pri .neg [x] S1) M H Q (wAt W σ) := by
    unfold priR consR at q
    rw [G.bind_assoc] at q
    exact q
  exact UnaryOp_ (one (k := fun _ x S1 => pri .neg [x] S1) ha A q fun u s1 x v M1 S1 H1 e1 A1 rp rv q1 => un_neg' pins s1 σ ρ M1 S1 H1 x v u Q _ A1 rp rv q1)
/-- list(e), changed later -/
theorem s_mlist {x : Str} (hK : X.K = p.K) (hc : X.calm = true) (hg : Gl X x) (hm : X.mg x = none) (hv : bootBuiltins x = some (.type "list")) (hn : x ≠ "__name__") (hd : (x == ("__debug__" : Str)) = false) {e : Expr} {es : List Expr} {rs : Env → Store → R (List PV)} (ha : PA X (e :: es) (tDA p rs W)) (hs : (e :: es).all notStar = true) :
    PE X (.Call (.Name x p2) (e :: es) [] pos) (tD p (mutR (priR .list rs)) W) := by
  refine peOf fun pins s σ H ρ M S Q A q => ?_
  have q : Post p (Rep p.K) ((rs ρ S).bind fun xs S1 => (pri .list xs S1).bind fun v S1 => match v with
    | PV.lst xs => R.ok (PV.ptr S1.length) (S1 ++ [MO.lst xs])
    | _ => .bad) M H Q (wAt W σ) := by
    unfold mutR priR at q
    rw [G.bind_assoc] at q
    exact q
  rw [List.all_cons, Bool.and_eq_true] at hs
  have hst := star_not (env := X.env) hs.1 es
  have hpl : (backTo pos (starEach es X.env)).any (·.1) = false := any_star hs.2
  refine Call_ (ld_blt A.inv hg hm hv (PyProof.Rows.callWith_type1 ?_ hst hpl) hn hd)
  refine oneA (pos := pos) (k := fun _ xs S1 => (pri .list xs S1).bind fun v S1 => match v with
    | PV.lst xs => R.ok (PV.ptr S1.length) (S1 ++ [MO.lst xs])
    | _ => .bad) ha A q fun us s2 xs vs M2 S2 H2 e2 A2 rp2 rv2 q2 => ?_
  rcases xs with _ | ⟨y, _ | ⟨y2, l⟩⟩
  · exact (show False from q2).elim
  · obtain ⟨v, rfl, r1⟩ := RepL.one (xs := []) rp2
    obtain ⟨u, rfl, ru⟩ := vals1 rv2
    have key : ∀ ys, listOf S2 y = some ys → pri .list [y] S2 = .ok (.lst ys) S2 → wpAny (model X.prog X.w) X.A (call (.type "list") [u]) (EP X pins σ Q) X.xe s2 := fun ys e e2 => by
      rw [e2] at q2
      exact cp_listG hK hc A2 r1 ru e fun l ws hl rl => fin_cell q2 A2.ok hl rl
    have hp : pri .list [y] S2 = (match res S2 y with
      | .tup xs => rok (.lst xs) S2
      | .lst xs => rok (.lst xs) S2
      | .str xs => if xs.length ≤ 8 then rok (.lst (xs.map fun c => .str [c])) S2 else .bad
      | _ => .bad) := rfl
    have hl : listOf S2 y = (match res S2 y with
      | .tup xs => some xs
      | .lst xs => some xs
      | .str xs => if xs.length ≤ 8 then some (xs.map fun c => .str [c]) else none
      | _ => none) := rfl
    rw [hp] at q2 key
    rw [hl] at key
    cases e : res S2 y with
    | tup ys => rw [e] at key; exact key ys rfl rfl
    | lst ys => rw [e] at key; exact key ys rfl rfl
    | str z =>
      rw [e] at key q2
      by_cases h8 : z.length ≤ 8
      · simp only [if_pos h8] at key
        exact key _ rfl rfl
      · simp only [if_neg h8] at q2
        exact q2.elim
    | _ => rw [e] at q2; exact (show False from q2).elim
  · exact (show False from q2).elim
/-- the parts of a comprehension -/
structure LcP (p : Pm) (X : Cx) (W : WX) (elt tg it : Expr) (ifs : List Expr) (scope : Scope) (own : List (Str × Nat)) (rt re : Ev) (is : List Nat) (ri : EvI) (tup : Bool) : Prop where
  hi : PI X tg it (tDI p tup ri W)
  ok : BlkOk X.N X.env.scope scope own
  hg : ∀ (s : Shared) (H : Hp) (C : Addr) (cl : List (Str × Addr)) (fp : List Addr), PG (X.blk s H scope (compEnvC scope cl C X.env) fp) tg (tgD p tup is)
  ht : ∀ (s : Shared) (H : Hp) (C : Addr) (cl : List (Str × Addr)) (fp : List Addr), PTs (X.blk s H scope (compEnvC scope cl C X.env) fp) ifs (tDT p rt noW)
  he : ∀ (s : Shared) (H : Hp) (C : Addr) (cl : List (Str × Addr)) (fp : List Addr), PE (X.blk s H scope (compEnvC scope cl C X.env) fp) elt (tD p re noW)
  hs : ∀ x, foldedSetIterable it X.env x = pure x
  sub : ∀ i ∈ is, i ∈ own.map (·.2)
section
variable {elt tg it tg1 it1 : Expr} {ifs ifs1 : List Expr} {scope : Scope} {own : List (Str × Nat)} {rt re : Ev} {is is1 : List Nat} {ri ri1 : EvI} {tup1 : Bool}
theorem LcP.pe (hc : X.calm = true) (hN : X.N.Nodup) (P : LcP p X W elt tg it ifs scope own rt re is ri tup) : PE X (.ListComp elt [⟨tg, it, ifs, 0⟩] scope pos) (tD p (comR rt re is ri (own.map (·.2))) W) :=
  peWeak (pe_lc hc hN P.hi P.ok P.hg P.ht P.he P.hs) fun σ H Q h => lcTD P.sub h
theorem LcP.pem (hc : X.calm = true) (hN : X.N.Nodup) (P : LcP p X W elt tg it ifs scope own rt re is ri tup) : PE X (.ListComp elt [⟨tg, it, ifs, 0⟩] scope pos) (tD p (mutR (comR rt re is ri (own.map (·.2)))) W) :=
  peWeak (pe_lc hc hN P.hi P.ok P.hg P.ht P.he P.hs) fun σ H Q h => lcTDm P.sub h
theorem LcP.ps {i : Nat} {y : Str} {py spos : Pos} (hc : X.calm = true) (hN : X.N.Nodup) (P : LcP p X W elt tg it ifs scope own rt re is ri tup) (hy : X.N[i]? = some y) (hyl : X.env.scope.names.lookup y = some .local)
    (hsw : swapsWith (.ListComp elt [⟨tg, it, ifs, 0⟩] scope pos) (some (.Name y py)) spos.line X.env = pure true) : PS X (.Assign [.Name y py] (.ListComp elt [⟨tg, it, ifs, 0⟩] scope pos) spos) (tS p (asgR i (comR rt re is ri (own.map (·.2)))) W) :=
  psWeak (ps_setLc hc hN hy hyl hsw P.hi P.ok P.hg P.ht P.he P.hs) fun D σ H h => lcTD P.sub (asgW h)
theorem LcP.psm {i : Nat} {y : Str} {py spos : Pos} (hc : X.calm = true) (hN : X.N.Nodup) (P : LcP p X W elt tg it ifs scope own rt re is ri tup) (hy : X.N[i]? = some y) (hyl : X.env.scope.names.lookup y = some .local)
    (hsw : swapsWith (.ListComp elt [⟨tg, it, ifs, 0⟩] scope pos) (some (.Name y py)) spos.line X.env = pure true) : PS X (.Assign [.Name y py] (.ListComp elt [⟨tg, it, ifs, 0⟩] scope pos) spos) (tS p (asgR i (mutR (comR rt re is ri (own.map (·.2))))) W) :=
  psWeak (ps_setLc hc hN hy hyl hsw P.hi P.ok P.hg P.ht P.he P.hs) fun D σ H h => lcTDm P.sub (asgW h)
structure Lc2P (p : Pm) (X : Cx) (W : WX) (elt tg it tg1 it1 : Expr) (ifs1 : List Expr) (scope : Scope) (own : List (Str × Nat)) (rt re : Ev) (is : List Nat) (ri : EvI) (is1 : List Nat) (ri1 : EvI) (tup tup1 : Bool) : Prop where
  hi : PI X tg it (tDI p tup ri W)
  ok : BlkOk X.N X.env.scope scope own
  hg : ∀ (s : Shared) (H : Hp) (C : Addr) (cl : List (Str × Addr)) (fp : List Addr), PG (X.blk s H scope (compEnvC scope cl C X.env) fp) tg (tgD p tup is)
  hi1 : ∀ (s : Shared) (H : Hp) (C : Addr) (cl : List (Str × Addr)) (fp : List Addr), PI (X.blk s H scope (compEnvC scope cl C X.env) fp) tg1 it1 (tDI p tup1 ri1 noW)
  hg1 : ∀ (s : Shared) (H : Hp) (C : Addr) (cl : List (Str × Addr)) (fp : List Addr), PG (X.blk s H scope (compEnvC scope cl C X.env) fp) tg1 (tgD p tup1 is1)
  ht1 : ∀ (s : Shared) (H : Hp) (C : Addr) (cl : List (Str × Addr)) (fp : List Addr), PTs (X.blk s H scope (compEnvC scope cl C X.env) fp) ifs1 (tDT p rt noW)
  he : ∀ (s : Shared) (H : Hp) (C : Addr) (cl : List (Str × Addr)) (fp : List Addr), PE (X.blk s H scope (compEnvC scope cl C X.env) fp) elt (tD p re noW)
  hs : ∀ x, foldedSetIterable it X.env x = pure x
  hs1 : ∀ env x, foldedSetIterable it1 env x = pure x
  sub : ∀ i ∈ is, i ∈ own.map (·.2)
  sub1 : ∀ i ∈ is1, i ∈ own.map (·.2)
theorem Lc2P.pe (hc : X.calm = true) (hN : X.N.Nodup) (P : Lc2P p X W elt tg it tg1 it1 ifs1 scope own rt re is ri is1 ri1 tup tup1) : PE X (.ListComp elt [⟨tg, it, [], 0⟩, ⟨tg1, it1, ifs1, 0⟩] scope pos) (tD p (co2R rt re is ri is1 ri1 (own.map (·.2))) W) :=
  peWeak (pe_lc2 hc hN P.hi P.ok P.sub1 P.hg (fun _ _ _ _ _ => pts_nil) P.hi1 P.hg1 P.ht1 P.he P.hs P.hs1) fun σ H Q h => lc2TD P.sub h
theorem Lc2P.pem (hc : X.calm = true) (hN : X.N.Nodup) (P : Lc2P p X W elt tg it tg1 it1 ifs1 scope own rt re is ri is1 ri1 tup tup1) : PE X (.ListComp elt [⟨tg, it, [], 0⟩, ⟨tg1, it1, ifs1, 0⟩] scope pos) (tD p (mutR (co2R rt re is ri is1 ri1 (own.map (·.2)))) W) :=
  peWeak (pe_lc2 hc hN P.hi P.ok P.sub1 P.hg (fun _ _ _ _ _ => pts_nil) P.hi1 P.hg1 P.ht1 P.he P.hs P.hs1) fun σ H Q h => lc2TDm P.sub h
theorem Lc2P.ps {i : Nat} {y : Str} {py spos : Pos} (hc : X.calm = true) (hN : X.N.Nodup) (P : Lc2P p X W elt tg it tg1 it1 ifs1 scope own rt re is ri is1 ri1 tup tup1) (hy : X.N[i]? = some y) (hyl : X.env.scope.names.lookup y = some .local)
    (hsw : swapsWith (.ListComp elt [⟨tg, it, [], 0⟩, ⟨tg1, it1, ifs1, 0⟩] scope pos) (some (.Name y py)) spos.line X.env = pure true) : PS X (.Assign [.Name y py] (.ListComp elt [⟨tg, it, [], 0⟩, ⟨tg1, it1, ifs1, 0⟩] scope pos) spos) (tS p (asgR i (co2R rt re is ri is1 ri1 (own.map (·.2)))) W) :=
  psWeak (ps_setLc2 hc hN hy hyl hsw P.hi P.ok P.sub1 P.hg (fun _ _ _ _ _ => pts_nil) P.hi1 P.hg1 P.ht1 P.he P.hs P.hs1) fun D σ H h => lc2TD P.sub (asgW h)
theorem Lc2P.psm {i : Nat} {y : Str} {py spos : Pos} (hc : X.calm = true) (hN : X.N.Nodup) (P : Lc2P p X W elt tg it tg1 it1 ifs1 scope own rt re is ri is1 ri1 tup tup1) (hy : X.N[i]? = some y) (hyl : X.env.scope.names.lookup y = some .local)
    (hsw : swapsWith (.ListComp elt [⟨tg, it, [], 0⟩, ⟨tg1, it1, ifs1, 0⟩] scope pos) (some (.Name y py)) spos.line X.env = pure true) : PS X (.Assign [.Name y py] (.ListComp elt [⟨tg, it, [], 0⟩, ⟨tg1, it1, ifs1, 0⟩] scope pos) spos) (tS p (asgR i (mutR (co2R rt re is ri is1 ri1 (own.map (·.2))))) W) :=
  psWeak (ps_setLc2 hc hN hy hyl hsw P.hi P.ok P.sub1 P.hg (fun _ _ _ _ _ => pts_nil) P.hi1 P.hg1 P.ht1 P.he P.hs P.hs1) fun D σ H h => lc2TDm P.sub (asgW h)
end
end G
set_option maxHeartbeats 1000000
namespace G
open PySem PySem.Spec PyProof.Rows L2
structure FnK (p : Pm) (X : Cx) (F : Orc) (x : Str) (g ar : Nat) : Prop where
  ex : ∃ (k : Nat) (f : Addr) (fd : FuncData) (ps : List Str), X.mg x = some (.ref f) ∧ PySem.W.keepIn X.K (.ref f) = true ∧ ps.length = ar ∧ Binds X.K fd ps [] ∧ Room k X.A ∧ FnOk X.prog X.w X.K X.mg X.base (L2N.CX X.prog X.w) k f fd ps (SpD p F g ar)
  bad : ∀ xs S, xs.length ≠ ar → F g xs S = .bad
structure CK (p : Pm) (G : Gb) (L : LamC) (X : Cx) (sc : Scope) (N : List Str) (F F2 : Orc) (W : WX) : Prop where
  hK : X.K = p.K
  calm : X.calm = true
  nd : X.N.Nodup
  hN : X.N = N
  hsc : X.env.scope = sc
  room : Room 0 X.A
  tk : L2N.Takes X W
  fns : ∀ x g ar, G.fns.lookup x = some (g, ar) → FnK p X F x g ar
  cst : ∀ x c, G.cst.lookup x = some c → ∃ u, X.mg x = some u ∧ RelV (cV c) u ∧ okC c = true
  blt : ∀ x, x ∈ G.blt → X.mg x = none
  lam : ∀ e c, L sc N e = some c → PE X e (tD p (fun ρ S => ev c F F2 ρ S) W)
variable {p : Pm} {G : Gb} {L : LamC} {X : Cx} {sc : Scope} {N : List Str} {F F2 : Orc} {W : WX} {n : Nat}
theorem takes0N {X : Cx} : L2N.Takes X noW := fun _ _ x => by
  obtain ⟨_, _, _, _, _, _, _, _, _, _, _, _, _, _, _, _, z⟩ := x
  exact (show False from z).elim
theorem CK.blk (C : CK p G L X sc N F F2 W) {s : Shared} {H : Hp} {scope : Scope} {cl : List (Str × Addr)} {D : Addr} {fp : List Addr} : CK p G noL (X.blk s H scope (compEnvC scope cl D X.env) fp) (relS scope sc) N F F2 noW where
  hK := C.hK
  calm := C.calm
  nd := C.nd
  hN := C.hN
  hsc := by rw [← C.hsc]; rfl
  room := C.room
  tk := takes0N
  fns := fun x g ar h => ⟨(C.fns x g ar h).ex, (C.fns x g ar h).bad⟩
  cst := C.cst
  blt := C.blt
  lam := fun e c h => nomatch h
theorem isGl_of {x : Str} (h : isGl sc x = true) (hs : X.env.scope = sc) : Gl X x ∧ x ≠ "__name__" ∧ (x == ("__debug__" : Str)) = false := by
  unfold isGl plainN at h
  simp only [Bool.and_eq_true, decide_eq_true_eq, Bool.not_eq_true', Bool.not_eq_eq_eq_not, Bool.not_true] at h
  obtain ⟨h1, ⟨h2, h3⟩, h4⟩ := h
  refine ⟨by unfold Gl Env.kindOf; rw [hs]; exact h1, fun e => ?_, h2⟩
  subst e
  exact absurd h4 (by decide)
theorem isBl_of {x : Str} (C : CK p G L X sc N F F2 W) (h : isBl G sc x = true) : Gl X x ∧ X.mg x = none ∧ x ≠ "__name__" ∧ (x == ("__debug__" : Str)) = false := by
  unfold isBl at h
  rw [Bool.and_eq_true] at h
  obtain ⟨h1, h2, h3⟩ := isGl_of h.1 C.hsc
  exact ⟨h1, C.blt x (of_decide_eq_true h.2), h2, h3⟩
theorem slot_get {x : Str} {i : Nat} (h : slot N x = some i) : N[i]? = some x := by
  unfold slot at h
  rw [List.idxOf?_eq_some_iff] at h
  obtain ⟨hl, h1, _⟩ := h
  rw [List.getElem?_eq_getElem hl]
  simpa using h1
theorem varOf_of {x : Str} {i : Nat} (h : varOf sc N x = some i) (hs : X.env.scope = sc) (hN : X.N = N) : X.N[i]? = some x ∧ Vis X.env.scope x ∧ (x == ("__debug__" : Str)) = false ∧ (x == ("__classdict__" : Str)) = false := by
  unfold varOf at h
  by_cases hp : plainN x = true
  · rw [if_pos hp] at h
    unfold plainN at hp
    simp only [Bool.and_eq_true, Bool.not_eq_true', Bool.not_eq_eq_eq_not, Bool.not_true] at hp
    obtain ⟨⟨h2, h3⟩, h4⟩ := hp
    rw [hs, hN]
    unfold Vis
    split at h
    · rename_i e; exact ⟨slot_get h, .inl e, h2, h3⟩
    · rename_i e; exact ⟨slot_get h, .inr (.inl e), h2, h3⟩
    · rename_i e; exact ⟨slot_get h, .inr (.inr e), h2, h3⟩
    · cases h
  · rw [if_neg hp] at h; cases h
theorem binO_of (C : CK p G L X sc N F F2 W) {o : Operator} {b : B2} (h : binO o = some b) : OpB p X (binaryOp o) b := by
  cases o <;> (cases h <;> first | exact ob_add C.hK | exact ob_sub | exact ob_mul C.hK | exact ob_fdiv | exact ob_mod | exact ob_pow)
theorem cmpO_of (C : CK p G L X sc N F F2 W) {o : CmpOp} {b : B2} (h : cmpO o = some b) : OpB p X (compareOp o) b := by
  cases o <;> (cases h; first | exact ob_eq C.hK C.room | exact ob_ne C.hK C.room | exact ob_lt C.hK C.room | exact ob_le | exact ob_gt | exact ob_ge | exact ob_is | exact ob_isnot | exact ob_inn C.hK C.room | exact ob_notin C.hK C.room)
theorem kdOf_of {x : Str} {k : Kd} (h : kdOf x = some k) : bootBuiltins x = some (.type (kdN k)) := by
  unfold kdOf at h
  split at h
  · cases h; rename_i e; subst e; decide +kernel
  split at h
  · cases h; rename_i e; subst e; decide +kernel
  split at h
  · cases h; rename_i e; subst e; decide +kernel
  split at h
  · cases h; rename_i e; subst e; decide +kernel
  split at h
  · cases h; rename_i e; subst e; decide +kernel
  · cases h
theorem priOf_of (C : CK p G L X sc N F F2 W) {x : Str} {m : Nat} {pr : Pr} (h : priOf x m = some pr) : ∃ fv, ((∃ n, fv = Value.builtin n) ∨ ∃ n, fv = Value.type n) ∧ bootBuiltins x = some fv ∧ CallP p X fv pr := by
  unfold priOf at h
  split at h
  · split at h
    · cases h; rename_i e; subst e; exact ⟨.builtin "len", .inl ⟨_, rfl⟩, by decide +kernel, cp_len C.hK⟩
    split at h
    · cases h; rename_i e; subst e; exact ⟨.type "int", .inr ⟨_, rfl⟩, by decide +kernel, cp_int⟩
    split at h
    · cases h; rename_i e; subst e; exact ⟨.builtin "abs", .inl ⟨_, rfl⟩, by decide +kernel, cp_abs⟩
    split at h
    · cases h; rename_i e; subst e; exact ⟨.type "list", .inr ⟨_, rfl⟩, by decide +kernel, cp_list C.hK C.calm⟩
    split at h
    · cases h; rename_i e; subst e; exact ⟨.type "tuple", .inr ⟨_, rfl⟩, by decide +kernel, cp_tuple C.hK⟩
    split at h
    · cases h; rename_i e; subst e; exact ⟨.builtin "sorted", .inl ⟨_, rfl⟩, by decide +kernel, cp_sorted C.hK C.room⟩
    split at h
    · cases h; rename_i e; subst e; exact ⟨.builtin "max", .inl ⟨_, rfl⟩, by decide +kernel, cp_max1 C.hK C.calm C.room⟩
    split at h
    · cases h; rename_i e; subst e; exact ⟨.type "str", .inr ⟨_, rfl⟩, by decide +kernel, cp_str⟩
    split at h
    · cases h; rename_i e; subst e; exact ⟨.builtin "sum", .inl ⟨_, rfl⟩, by decide +kernel, cp_sum C.hK C.calm⟩
    · cases h
  split at h
  · split at h
    · cases h; rename_i e; subst e; exact ⟨.builtin "max", .inl ⟨_, rfl⟩, by decide +kernel, cp_max2 C.calm⟩
    split at h
    · cases h; rename_i e; subst e; exact ⟨.builtin "min", .inl ⟨_, rfl⟩, by decide +kernel, cp_min2 C.calm⟩
    · cases h
  · cases h
theorem mthOf_of (C : CK p G L X sc N F F2 W) {x : Str} {m : Nat} {pr : Pr} (h : mthOf x m = some pr) : MthP p X x pr := by
  unfold mthOf at h
  split at h
  · split at h
    · cases h; rename_i e; subst e; exact mp_index C.hK
    split at h
    · cases h; rename_i e; subst e; exact mp_append
    split at h
    · cases h; rename_i e; subst e; exact mp_remove
    split at h
    · cases h; rename_i e; subst e; exact mp_split
    split at h
    · cases h; rename_i e; subst e; exact mp_join C.hK
    · cases h
  split at h
  · split at h
    · cases h; rename_i e; subst e; exact mp_dget
    · cases h
  split at h
  · split at h
    · cases h; rename_i e; subst e; exact mp_upper
    · cases h
  · cases h
theorem locOf_of {scope : Scope} {x : Str} {i : Nat} (h : locOf scope N x = some i) : N[i]? = some x ∧ (scope.names.lookup x = some .local ∨ scope.names.lookup x = some .cell) := by
  unfold locOf at h
  split at h
  · rename_i e; exact ⟨slot_get h, .inl e⟩
  · rename_i e; exact ⟨slot_get h, .inr e⟩
  · cases h
theorem tgNames_some {es : List Expr} : ∀ {xs : List Str}, (es.mapM fun e => match e with | .Name x _ => some x | _ => none) = some xs → ∃ ps : List Pos, es = (xs.zip ps).map (fun q => Expr.Name q.1 q.2) ∧ ps.length = xs.length := by
  induction es with
  | nil => intro xs h; simp at h; subst h; exact ⟨[], rfl, rfl⟩
  | cons e es ih =>
    intro xs h
    rw [List.mapM_cons] at h
    cases e with
    | Name x q =>
      simp only [Option.bind_eq_bind, Option.bind_some, Option.bind_eq_some_iff] at h
      obtain ⟨ys, h1, h2⟩ := h
      cases h2
      obtain ⟨ps, e1, e2⟩ := ih h1
      exact ⟨q :: ps, by rw [e1]; rfl, by simp [e2]⟩
    | _ => simp at h
theorem namesAt_of {scope : Scope} (hN : X.N = N) (hk : ∀ x, scope.names.lookup x = some .local ∨ scope.names.lookup x = some .cell → Loc X.env.scope x ∧ (X.fn x = true ∨ X.env.scope.names.lookup x = some .local)) :
    ∀ {xs : List Str} {ps : List Pos} {is : List Nat}, ps.length = xs.length → xs.mapM (locOf scope N) = some is → NamesAt X ((xs.zip ps).map fun q => Expr.Name q.1 q.2) is
  | [], ps, is, hl, h => by simp at h; subst h; exact .nil
  | x :: xs, [], is, hl, h => by cases hl
  | x :: xs, q :: ps, is, hl, h => by
    rw [List.mapM_cons] at h
    simp only [Option.bind_eq_bind, Option.bind_eq_some_iff] at h
    obtain ⟨i, h1, js, h2, h3⟩ := h
    cases h3
    obtain ⟨e1, e2⟩ := locOf_of h1
    obtain ⟨l1, l2⟩ := hk x e2
    exact .cons (by rw [hN]; exact e1) l1 l2 (namesAt_of hN hk (Nat.succ.inj hl) h2)
theorem tgOf_of {scope : Scope} {tg : Expr} {is : List Nat} (h : tgOf scope N tg = some is) (hc : X.calm = true) (hnd : X.N.Nodup) (hN : X.N = N) (hk : ∀ x, scope.names.lookup x = some .local ∨ scope.names.lookup x = some .cell → Loc X.env.scope x ∧ (X.fn x = true ∨ X.env.scope.names.lookup x = some .local)) :
    PG X tg (tgD p (isTupE tg) is) ∧ (isTupE tg = true → ∃ a b c, tg = .Tuple a b c) ∧ is.Nodup ∧ (∃ xs, tgNames tg = some xs ∧ xs.mapM (locOf scope N) = some is) ∧ (isTupE tg = true → 2 ≤ is.length) := by
  unfold tgOf at h
  simp only [Option.bind_eq_bind, Option.bind_eq_some_iff] at h
  obtain ⟨xs, h1, js, h2, h3⟩ := h
  split at h3
  · rename_i hh
    cases h3
    cases tg with
    | Name x q =>
      cases h1
      rw [List.mapM_cons] at h2
      simp only [Option.bind_eq_bind, Option.bind_eq_some_iff] at h2
      obtain ⟨i, e1, ks, e2, e3⟩ := h2
      simp at e2
      subst e2
      cases e3
      obtain ⟨f1, f2⟩ := locOf_of e1
      obtain ⟨l1, l2⟩ := hk x f2
      refine ⟨s_tg1 hnd (by rw [hN]; exact f1) l1 l2, fun z => Bool.noConfusion z, hh.1, ⟨[x], rfl, ?_⟩, hh.2⟩
      simp [e1]
    | Tuple es k q =>
      obtain ⟨ps, e1, e2⟩ := tgNames_some h1
      refine ⟨?_, fun _ => ⟨_, _, _, rfl⟩, hh.1, ⟨xs, h1, h2⟩, hh.2⟩
      rw [e1]
      exact s_tgN hc hnd (namesAt_of hN hk e2 h2) (hh.2 rfl)
    | _ => cases h1
  · cases h3
theorem own_mem {scope : Scope} {is : List Nat} {xs : List Str} (h : xs.mapM (locOf scope N) = some is) :
    ∀ i ∈ is, i ∈ (scope.names.filterMap fun y => if y.2 = .local ∨ y.2 = .cell then (slot N y.1).map fun i => (y.1, i) else none).map (·.2) := by
  induction xs generalizing is with
  | nil => simp at h; subst h; intro i hi; cases hi
  | cons x xs ih =>
    rw [List.mapM_cons] at h
    simp only [Option.bind_eq_bind, Option.bind_eq_some_iff] at h
    obtain ⟨i, h1, js, h2, h3⟩ := h
    cases h3
    intro j hj
    rcases List.mem_cons.mp hj with rfl | hj
    · unfold locOf at h1
      have key : ∀ k, scope.names.lookup x = some k → k = .local ∨ k = .cell → slot N x = some j → j ∈ (scope.names.filterMap fun y => if y.2 = .local ∨ y.2 = .cell then (slot N y.1).map fun i => (y.1, i) else none).map (·.2) := fun k e hk hs =>
        List.mem_map.mpr ⟨(x, j), List.mem_filterMap.mpr ⟨(x, k), PySem.mem_of_lookup e, by simp only [if_pos hk, hs]; rfl⟩, rfl⟩
      split at h1
      · rename_i e; exact key _ e (.inl rfl) h1
      · rename_i e; exact key _ e (.inr rfl) h1
      · cases h1
    · exact ih h2 j hj
/-- in a comprehension's block -/
theorem blk_loc {s : Shared} {H : Hp} {scope : Scope} {cl : List (Str × Addr)} {D : Addr} {fp : List Addr} (x : Str) (h : scope.names.lookup x = some .local ∨ scope.names.lookup x = some .cell) :
    Loc (X.blk s H scope (compEnvC scope cl D X.env) fp).env.scope x ∧ ((X.blk s H scope (compEnvC scope cl D X.env) fp).fn x = true ∨ (X.blk s H scope (compEnvC scope cl D X.env) fp).env.scope.names.lookup x = some .local) := by
  rcases h with h | h
  · have e : (relS scope X.env.scope).names.lookup x = some .local := lookup_relS_keep (by simp) h
    exact ⟨.inl e, .inr e⟩
  · have e : (relS scope X.env.scope).names.lookup x = some .cell := lookup_relS_keep (by simp) h
    exact ⟨.inr e, .inl (by show (scope.names.lookup x == some .cell) = true; rw [h]; rfl)⟩
theorem cE_noset {op : CmpOp} {b : Expr} {c : Ex} (h : cE G L n sc N b = some c) : behindInMarks op b = false := by
  cases b with
  | Set a b c =>
    cases n with
    | zero => unfold cE at h; cases h
    | succ n => unfold cE at h; cases h
  | _ => rfl
structure Snd (p : Pm) (G : Gb) (n : Nat) : Prop where
  e : ∀ {L X sc N F F2 W e c}, CK p G L X sc N F F2 W → cE G L n sc N e = some c → PE X e (tD p (fun ρ S => ev c F F2 ρ S) W) ∧ PT X e (tDT p (fun ρ S => ev c F F2 ρ S) W)
  call : ∀ {L X sc N F F2 W f args c}, CK p G L X sc N F F2 W → cCall G L n sc N f args = some c → ∀ q pos, PE X (.Call (.Name f q) args [] pos) (tD p (fun ρ S => ev c F F2 ρ S) W)
  a : ∀ {L X sc N F F2 W es c}, CK p G L X sc N F F2 W → cA G L n sc N es = some c → PA X es (tDA p (fun ρ S => evA c F F2 ρ S) W) ∧ es.all notStar = true
  and : ∀ {L X sc N F F2 W vs c}, CK p G L X sc N F F2 W → cAnd G L n sc N vs = some c → ∀ pos, PE X (.BoolOp .And vs pos) (tD p (fun ρ S => ev c F F2 ρ S) W) ∧ PW X (.BoolOp .And vs pos) (tDT p (fun ρ S => ev c F F2 ρ S) W)
  or : ∀ {L X sc N F F2 W vs c}, CK p G L X sc N F F2 W → cOr G L n sc N vs = some c → ∀ pos, PE X (.BoolOp .Or vs pos) (tD p (fun ρ S => ev c F F2 ρ S) W) ∧ PW X (.BoolOp .Or vs pos) (tDT p (fun ρ S => ev c F F2 ρ S) W)
  o : ∀ {L X sc N F F2 W o c}, CK p G L X sc N F F2 W → cO G L n sc N o = some c → PO X o (tDO p (fun ρ S => evO c F F2 ρ S) W)
  i : ∀ {L X sc N F F2 W tg tup it c}, CK p G L X sc N F F2 W → (tup = true → ∃ a b c, tg = .Tuple a b c) → cI G L n sc N tup it = some c → PI X tg it (tDI p tup (fun ρ S => evI c F F2 ρ S) W) ∧ ∀ env x, foldedSetIterable it env x = pure x
end G
set_option maxHeartbeats 1000000
namespace G
open PySem PySem.Spec PyProof.Rows L2
variable {p : Pm} {G : Gb} {L : LamC} {X : Cx} {sc : Scope} {N : List Str} {F F2 : Orc} {W : WX} {n : Nat}
theorem lcp_of (ih : Snd p G n) (C : CK p G L X sc N F F2 W) {elt tg it : Expr} {ifs : List Expr} {scope : Scope} {is : List Nat} {ci ct ce : Ex} (hb : blkC N sc scope (ownOf N scope) = true) (htg : tgOf scope N tg = some is) (hci : cI G L n sc N (isTupE tg) it = some ci)
    (hct : ifOf (fun c => cE G noL n (relS scope sc) N c) ifs = some ct) (hce : cE G noL n (relS scope sc) N elt = some ce) :
    LcP p X W elt tg it ifs scope (ownOf N scope) (fun ρ S => ev ct F F2 ρ S) (fun ρ S => ev ce F F2 ρ S) is (fun ρ S => evI ci F F2 ρ S) (isTupE tg) := by
  have ok : BlkOk X.N X.env.scope scope (ownOf N scope) := by rw [C.hN, C.hsc]; exact blkOk_by hb
  have tg' := fun (s : Shared) (H : Hp) (D : Addr) (cl : List (Str × Addr)) (fp : List Addr) => tgOf_of (p := p) (X := X.blk s H scope (compEnvC scope cl D X.env) fp) htg C.calm C.nd C.hN (fun x h => blk_loc x h)
  obtain ⟨_, t1, _, ⟨xs, _, t2⟩, _⟩ := tgOf_of (p := p) (X := X.blk X.s_0 (fun _ => none) scope (compEnvC scope [] 0 X.env) []) htg C.calm C.nd C.hN (fun x h => blk_loc x h)
  have hi := ih.i C t1 hci
  refine ⟨hi.1, ok, fun s H D cl fp => (tg' s H D cl fp).1, fun s H D cl fp => ?_, fun s H D cl fp => (ih.e C.blk hce).1, fun x => hi.2 _ x, own_mem t2⟩
  rcases ifs with _ | ⟨c, _ | ⟨c2, l⟩⟩
  · cases hct
    exact s_pts0
  · exact pts_one (ih.e C.blk hct).2
  · cases hct
theorem lc2p_of (ih : Snd p G n) (C : CK p G L X sc N F F2 W) {elt tg it tg1 it1 : Expr} {ifs1 : List Expr} {scope : Scope} {is is1 : List Nat} {ci ci1 ct ce : Ex} (hb : blkC N sc scope (ownOf N scope) = true) (htg : tgOf scope N tg = some is) (hci : cI G L n sc N (isTupE tg) it = some ci)
    (htg1 : tgOf scope N tg1 = some is1) (hci1 : cI G noL n (relS scope sc) N (isTupE tg1) it1 = some ci1)
    (hct : ifOf (fun c => cE G noL n (relS scope sc) N c) ifs1 = some ct) (hce : cE G noL n (relS scope sc) N elt = some ce) :
    Lc2P p X W elt tg it tg1 it1 ifs1 scope (ownOf N scope) (fun ρ S => ev ct F F2 ρ S) (fun ρ S => ev ce F F2 ρ S) is (fun ρ S => evI ci F F2 ρ S) is1 (fun ρ S => evI ci1 F F2 ρ S) (isTupE tg) (isTupE tg1) := by
  have ok : BlkOk X.N X.env.scope scope (ownOf N scope) := by rw [C.hN, C.hsc]; exact blkOk_by hb
  have tg' := fun (s : Shared) (H : Hp) (D : Addr) (cl : List (Str × Addr)) (fp : List Addr) => tgOf_of (p := p) (X := X.blk s H scope (compEnvC scope cl D X.env) fp) htg C.calm C.nd C.hN (fun x h => blk_loc x h)
  have tg1' := fun (s : Shared) (H : Hp) (D : Addr) (cl : List (Str × Addr)) (fp : List Addr) => tgOf_of (p := p) (X := X.blk s H scope (compEnvC scope cl D X.env) fp) htg1 C.calm C.nd C.hN (fun x h => blk_loc x h)
  obtain ⟨_, t1, _, ⟨xs, _, t2⟩, _⟩ := tgOf_of (p := p) (X := X.blk X.s_0 (fun _ => none) scope (compEnvC scope [] 0 X.env) []) htg C.calm C.nd C.hN (fun x h => blk_loc x h)
  obtain ⟨_, u1, _, ⟨ys, _, u2⟩, _⟩ := tgOf_of (p := p) (X := X.blk X.s_0 (fun _ => none) scope (compEnvC scope [] 0 X.env) []) htg1 C.calm C.nd C.hN (fun x h => blk_loc x h)
  have hi := ih.i C t1 hci
  have hi1 := fun (s : Shared) (H : Hp) (D : Addr) (cl : List (Str × Addr)) (fp : List Addr) => ih.i (C.blk (s := s) (H := H) (cl := cl) (D := D) (fp := fp)) u1 hci1
  refine ⟨hi.1, ok, fun s H D cl fp => (tg' s H D cl fp).1, fun s H D cl fp => (hi1 s H D cl fp).1, fun s H D cl fp => (tg1' s H D cl fp).1, fun s H D cl fp => ?_, fun s H D cl fp => (ih.e C.blk hce).1, fun x => hi.2 _ x, fun env x => (hi1 X.s_0 (fun _ => none) 0 [] []).2 env x, own_mem t2, own_mem u2⟩
  rcases ifs1 with _ | ⟨c, _ | ⟨c2, l⟩⟩
  · cases hct
    exact s_pts0
  · exact pts_one (ih.e C.blk hct).2
  · cases hct
theorem both {e : Expr} {r : Ev} (h : PE X e (tD p r W)) (hp : ∀ env whole, isTrue e env whole = (do let v ← whole; standAt e.pos; holding [v] (truthy v))) : PE X e (tD p r W) ∧ PT X e (tDT p r W) := ⟨h, ptVal h fun w => hp _ w⟩
theorem okC_str {s : Str} (h : okS s.cps.toList = true) : okC (.str s.cps.toList) = true := h
theorem cE_nostar {e : Expr} {c : Ex} (h : cE G L n sc N e = some c) : notStar e = true := by
  cases e with
  | Starred a b =>
    cases n with
    | zero => unfold cE at h; cases h
    | succ n => unfold cE at h; cases h
  | _ => rfl
theorem cA_nil {c : Ex} (h : cA G L n sc N [] = some c) : c = .nil := by
  cases n with
  | zero => unfold cA at h; cases h
  | succ n => unfold cA at h; cases h; rfl
theorem snd_e (ih : Snd p G n) {e : Expr} {c : Ex} (C : CK p G L X sc N F F2 W) (h : cE G L (n + 1) sc N e = some c) : PE X e (tD p (fun ρ S => ev c F F2 ρ S) W) ∧ PT X e (tDT p (fun ρ S => ev c F F2 ρ S) W) := by
  unfold cE at h
  split at h
  · cases h; exact both s_non fun _ _ => rfl
  · cases h; exact both s_bl fun _ _ => rfl
  · cases h; exact both s_int fun _ _ => rfl
  · split at h
    · rename_i hs
      cases h
      exact both (s_str hs) fun _ _ => rfl
    · cases h
  · split at h
    · rename_i hg
      simp only [Option.map_eq_some_iff] at h
      obtain ⟨v, h1, rfl⟩ := h
      obtain ⟨u, h2, h3, h4⟩ := C.cst _ _ h1
      obtain ⟨g1, g2, g3⟩ := isGl_of hg C.hsc
      exact both (s_glob g1 h2 h3 h4 g3) fun _ _ => rfl
    · simp only [Option.map_eq_some_iff] at h
      obtain ⟨i, h1, rfl⟩ := h
      obtain ⟨g1, g2, g3, g4⟩ := varOf_of h1 C.hsc C.hN
      exact both (s_var g1 g2 g3 g4) fun _ _ => rfl
  · simp only [Option.map_eq_some_iff] at h
    obtain ⟨a, h1, rfl⟩ := h
    obtain ⟨e1, e2⟩ := ih.e C h1
    exact ⟨s_not e1, s_notT e2⟩
  · simp only [Option.map_eq_some_iff] at h
    obtain ⟨a, h1, rfl⟩ := h
    exact both (s_neg (ih.e C h1).1) fun _ _ => rfl
  · obtain ⟨e1, e2⟩ := ih.and C h _
    exact ⟨e1, e2.pt⟩
  · obtain ⟨e1, e2⟩ := ih.or C h _
    exact ⟨e1, e2.pt⟩
  · simp only [Option.bind_eq_bind, Option.bind_eq_some_iff, Option.some.injEq] at h
    obtain ⟨c1, h1, c2, h2, c3, h3, rfl⟩ := h
    obtain ⟨a1, a2⟩ := ih.e C h1
    obtain ⟨b1, b2⟩ := ih.e C h2
    obtain ⟨d1, d2⟩ := ih.e C h3
    exact ⟨s_ite a2 b1 d1, s_iteT a2 b2 d2⟩
  · simp only [Option.bind_eq_bind, Option.bind_eq_some_iff, Option.some.injEq] at h
    obtain ⟨o, h1, c2, h2, c3, h3, rfl⟩ := h
    exact both (s_bin (binO_of C h1) (ih.e C h2).1 (ih.e C h3).1) fun _ _ => rfl
  · simp only [Option.bind_eq_bind, Option.bind_eq_some_iff, Option.some.injEq] at h
    obtain ⟨o, h1, c2, h2, c3, h3, rfl⟩ := h
    exact ⟨s_cmp (cmpO_of C h1) (ih.e C h2).1 (ih.e C h3).1 (cE_noset h3), s_cmpT (cmpO_of C h1) (ih.e C h2).1 (ih.e C h3).1 (cE_noset h3)⟩
  · simp only [Option.bind_eq_bind, Option.bind_eq_some_iff, Option.some.injEq] at h
    obtain ⟨o, h1, o2, h1', c2, h2, c3, h3, c4, h4, rfl⟩ := h
    exact ⟨s_chn (cmpO_of C h1) (cmpO_of C h1') (ih.e C h2).1 (ih.e C h3).1 (ih.e C h4).1 (cE_noset h4), s_chnT (cmpO_of C h1) (cmpO_of C h1') (ih.e C h2).1 (ih.e C h3).1 (ih.e C h4).1 (cE_noset h4)⟩
  · simp only [Option.bind_eq_bind, Option.bind_eq_some_iff, Option.some.injEq] at h
    obtain ⟨c2, h2, rfl⟩ := h
    exact both (s_tup (ih.a C h2).1) fun _ _ => rfl
  · simp only [Option.bind_eq_bind, Option.bind_eq_some_iff, Option.some.injEq] at h
    obtain ⟨c2, h2, rfl⟩ := h
    exact both (s_lst (ih.a C h2).1) fun _ _ => rfl
  · simp only [Option.bind_eq_bind, Option.bind_eq_some_iff, Option.some.injEq] at h
    obtain ⟨c1, h1, c2, h2, c3, h3, c4, h4, rfl⟩ := h
    exact both (s_dsp (ih.e C h1).1 (ih.e C h2).1 (ih.e C h3).1 (ih.e C h4).1) fun _ _ => rfl
  · simp only [Option.bind_eq_bind, Option.bind_eq_some_iff, Option.some.injEq] at h
    obtain ⟨c1, h1, c2, h2, c3, h3, rfl⟩ := h
    exact both (s_slc C.hK (ih.e C h1).1 (ih.o C h2) (ih.o C h3)) fun _ _ => rfl
  · split at h
    · rename_i st _ _ hm
      simp only [Option.bind_eq_bind, Option.bind_eq_some_iff, Option.some.injEq] at h
      obtain ⟨c1, h1, c2, h2, c3, h3, rfl⟩ := h
      obtain ⟨k, p3, p4, rfl⟩ : ∃ k p3 p4, st = .UnaryOp .USub (.Constant (.int 1) k p3) p4 := by
        unfold minus1 at hm
        split at hm
        · exact ⟨_, _, _, rfl⟩
        · cases hm
      exact both (s_slcB C.hK (ih.e C h1).1 (ih.o C h2) (ih.o C h3)) fun _ _ => rfl
    · cases h
  · split at h
    · rename_i hp
      simp only [Option.bind_eq_bind, Option.bind_eq_some_iff, Option.some.injEq] at h
      obtain ⟨c1, h1, c2, h2, rfl⟩ := h
      exact both (s_idx hp (fun pins s σ ρ M S H x y v v2 u w Q W' A r1 r2 rv rv2 q => ob_idx C.hK _ _ hp pins s σ ρ M S H x y v v2 u w Q W' A r1 r2 rv rv2 q) (ih.e C h1).1 (ih.e C h2).1) fun _ _ => rfl
    · cases h
  · split at h
    · rename_i hb
      simp only [Option.bind_eq_bind, Option.bind_eq_some_iff, Option.some.injEq] at h
      obtain ⟨is, h1, ci, h2, ct, h3, ce, h4, rfl⟩ := h
      exact both ((lcp_of ih C hb h1 h2 h3 h4).pe C.calm C.nd) fun _ _ => rfl
    · cases h
  · split at h
    · rename_i hb
      simp only [Option.bind_eq_bind, Option.bind_eq_some_iff, Option.some.injEq] at h
      obtain ⟨is, h1, ci, h2, is1, h5, ci1, h6, ct, h3, ce, h4, rfl⟩ := h
      exact both ((lc2p_of ih C hb h1 h2 h5 h6 h3 h4).pe C.calm C.nd) fun _ _ => rfl
    · cases h
  · exact both (C.lam _ _ h) fun _ _ => rfl
  · split at h
    · rename_i hb
      simp only [Option.bind_eq_bind, Option.bind_eq_some_iff, Option.some.injEq] at h
      obtain ⟨k, h1, c2, h2, rfl⟩ := h
      obtain ⟨g1, g2, g3, g4⟩ := isBl_of C hb.2.1
      obtain ⟨f1, f2, f3, f4⟩ := isBl_of C hb.2.2
      exact both (s_isi C.hK g1 g2 hb.1 f1 f2 (kdOf_of h1) f3 f4 (cE_nostar h2) (ih.e C h2).1) fun _ _ => rfl
    · exact both (ih.call C h _ _) fun _ _ => rfl
  · exact both (ih.call C h _ _) fun _ _ => rfl
  · split at h
    · rename_i args _ hb
      simp only [Option.bind_eq_bind, Option.bind_eq_some_iff, Option.some.injEq] at h
      obtain ⟨pr, h1, c2, h2, c3, h3, rfl⟩ := h
      obtain ⟨a1, a2⟩ := ih.a C h3
      have hlen := hb.2.2
      rcases args with _ | ⟨e, l⟩
      · have ec : c3 = .nil := cA_nil h3
        subst ec
        exact both (s_mth0 (mthOf_of C h1) (ih.e C h2).1 hb.1 hb.2.1) fun _ _ => rfl
      · exact both (s_mth (mthOf_of C h1) (ih.e C h2).1 a1 a2 hb.1 (by rw [List.length_cons] at hlen ⊢; omega) hb.2.1) fun _ _ => rfl
    · cases h
  · cases h
theorem evA_cons (c cs : Ex) : (fun ρ S => evA (.cons c cs) F F2 ρ S) = consR (fun ρ S => ev c F F2 ρ S) (fun ρ S => evA cs F F2 ρ S) := rfl
theorem snd_a (ih : Snd p G n) {es : List Expr} {c : Ex} (C : CK p G L X sc N F F2 W) (h : cA G L (n + 1) sc N es = some c) : PA X es (tDA p (fun ρ S => evA c F F2 ρ S) W) ∧ es.all notStar = true := by
  cases es with
  | nil =>
    unfold cA at h
    cases h
    exact ⟨s_nil, rfl⟩
  | cons e es =>
    unfold cA at h
    split at h
    · rename_i hs
      simp only [Option.bind_eq_bind, Option.bind_eq_some_iff, Option.some.injEq] at h
      obtain ⟨c1, h1, c2, h2, rfl⟩ := h
      obtain ⟨a1, a2⟩ := ih.a C h2
      exact ⟨s_cons hs (ih.e C h1).1 a1, by rw [List.all_cons, hs, a2]; rfl⟩
    · cases h
theorem snd_call (ih : Snd p G n) {f : Str} {args : List Expr} {c : Ex} (C : CK p G L X sc N F F2 W) (h : cCall G L (n + 1) sc N f args = some c) (q pos : Pos) : PE X (.Call (.Name f q) args [] pos) (tD p (fun ρ S => ev c F F2 ρ S) W) := by
  unfold cCall at h
  split at h
  · rename_i g a hss
    split at h
    · rename_i hb
      simp only [Option.bind_eq_bind, Option.bind_eq_some_iff, Option.some.injEq] at h
      obtain ⟨c1, h1, rfl⟩ := h
      unfold sset at hss
      split at hss
      · rename_i hf
        split at hss
        · split at hss
          · rename_i hgs
            cases hss
            obtain ⟨g1, g2, g3, g4⟩ := isBl_of C hb.1
            obtain ⟨f1, f2, f3, f4⟩ := isBl_of C hb.2.1
            exact s_sset C.hK C.calm g1 g2 hf f1 f2 hgs hb.2.2 (ih.e C h1).1
          · cases hss
        · cases hss
      · cases hss
    · cases h
  split at h
  · rename_i hg
    obtain ⟨g1, g2, g3⟩ := isGl_of hg C.hsc
    split at h
    · rename_i g ar hl
      split at h
      · rename_i har
        simp only [Option.bind_eq_bind, Option.bind_eq_some_iff, Option.some.injEq] at h
        obtain ⟨c2, h2, rfl⟩ := h
        obtain ⟨⟨k, fa, fd, ps, hm, hk, hps, hb, hr, hF⟩, hbad⟩ := C.fns _ _ _ hl
        obtain ⟨a1, a2⟩ := ih.a C h2
        cases args with
        | nil =>
          have e0 := cA_nil h2
          subst e0
          have har : 0 = ar := har
          subst har
          obtain rfl : ps = [] := List.length_eq_zero_iff.mp hps
          exact s_cal0 hF hr g1 hm hk hb C.tk g3
        | cons e es =>
          rw [List.all_cons, Bool.and_eq_true] at a2
          refine s_cal hF hr g1 hm hk hb C.tk a1 a2.1 (any_star a2.2) hbad g3
      · cases h
    · split at h
      · rename_i hb
        simp only [Option.bind_eq_bind, Option.bind_eq_some_iff, Option.some.injEq] at h
        obtain ⟨pr, h1, c2, h2, rfl⟩ := h
        obtain ⟨fv, f1, f2, f3⟩ := priOf_of C h1
        obtain ⟨a1, a2⟩ := ih.a C h2
        cases args with
        | nil => simp [priOf] at h1
        | cons e es => exact s_pri f1 g1 (C.blt _ (of_decide_eq_true hb)) f2 f3 a1 a2 g2 g3
      · cases h
  · cases h
theorem snd_and (ih : Snd p G n) {vs : List Expr} {c : Ex} (C : CK p G L X sc N F F2 W) (h : cAnd G L (n + 1) sc N vs = some c) (pos : Pos) : PE X (.BoolOp .And vs pos) (tD p (fun ρ S => ev c F F2 ρ S) W) ∧ PW X (.BoolOp .And vs pos) (tDT p (fun ρ S => ev c F F2 ρ S) W) := by
  rcases vs with _ | ⟨e, _ | ⟨e2, es⟩⟩
  · unfold cAnd at h; cases h
  · unfold cAnd at h
    obtain ⟨a1, a2⟩ := ih.e C h
    exact ⟨s_one a1, s_and1T a2⟩
  · unfold cAnd at h
    simp only [Option.bind_eq_bind, Option.bind_eq_some_iff, Option.some.injEq] at h
    obtain ⟨c1, h1, c2, h2, rfl⟩ := h
    obtain ⟨a1, a2⟩ := ih.e C h1
    obtain ⟨b1, b2⟩ := ih.and C h2 pos
    exact ⟨s_and a1 b1, s_andT a2 b2⟩
theorem snd_or (ih : Snd p G n) {vs : List Expr} {c : Ex} (C : CK p G L X sc N F F2 W) (h : cOr G L (n + 1) sc N vs = some c) (pos : Pos) : PE X (.BoolOp .Or vs pos) (tD p (fun ρ S => ev c F F2 ρ S) W) ∧ PW X (.BoolOp .Or vs pos) (tDT p (fun ρ S => ev c F F2 ρ S) W) := by
  rcases vs with _ | ⟨e, _ | ⟨e2, es⟩⟩
  · unfold cOr at h; cases h
  · unfold cOr at h
    obtain ⟨a1, a2⟩ := ih.e C h
    exact ⟨s_one a1, s_or1T a2⟩
  · unfold cOr at h
    simp only [Option.bind_eq_bind, Option.bind_eq_some_iff, Option.some.injEq] at h
    obtain ⟨c1, h1, c2, h2, rfl⟩ := h
    obtain ⟨a1, a2⟩ := ih.e C h1
    obtain ⟨b1, b2⟩ := ih.or C h2 pos
    exact ⟨s_or a1 b1, s_orT a2 b2⟩
theorem snd_o (ih : Snd p G n) {o : Option Expr} {c : Ex} (C : CK p G L X sc N F F2 W) (h : cO G L (n + 1) sc N o = some c) : PO X o (tDO p (fun ρ S => evO c F F2 ρ S) W) := by
  cases o with
  | none => unfold cO at h; cases h; exact s_ono
  | some e =>
    unfold cO at h
    simp only [Option.map_eq_some_iff] at h
    obtain ⟨c1, h1, rfl⟩ := h
    exact s_osome (ih.e C h1).1
theorem fold_not {it : Expr} (h : cE G L n sc N it = some c) (env : PySem.Env) (x : Value) : foldedSetIterable it env x = pure x := by
  cases it with
  | Set a b c =>
    cases n with
    | zero => unfold cE at h; cases h
    | succ n => unfold cE at h; cases h
  | _ => rfl
theorem snd_i (ih : Snd p G n) {tg it : Expr} {tup : Bool} {c : Ex} (C : CK p G L X sc N F F2 W) (ht : tup = true → ∃ a b c, tg = Expr.Tuple a b c) (h : cI G L (n + 1) sc N tup it = some c) : PI X tg it (tDI p tup (fun ρ S => evI c F F2 ρ S) W) ∧ ∀ env x, foldedSetIterable it env x = pure x := by
  have seqq : ∀ {c1 : Ex}, cE G L n sc N it = some c1 → PI X tg it (tDI p tup (fun ρ S => evI (.iseq c1) F F2 ρ S) W) ∧ ∀ env x, foldedSetIterable it env x = pure x := fun {c1} h1 => ⟨s_iseq (ih.e C h1).1, fold_not h1⟩
  unfold cI at h
  split at h
  · split at h
    · rename_i hb
      obtain ⟨e1, e2, e3⟩ := hb
      simp only [Option.bind_eq_bind, Option.bind_eq_some_iff, Option.some.injEq] at h
      obtain ⟨c1, h1, rfl⟩ := h
      obtain ⟨g1, g2, g3, g4⟩ := isBl_of C e2
      subst e1
      exact ⟨s_irng g1 g2 e3 (ih.e C h1).1, fun _ _ => rfl⟩
    split at h
    · rename_i hb
      obtain ⟨e1, e2, e3, e4⟩ := hb
      simp only [Option.bind_eq_bind, Option.bind_eq_some_iff, Option.some.injEq] at h
      obtain ⟨c1, h1, rfl⟩ := h
      obtain ⟨g1, g2, g3, g4⟩ := isBl_of C e2
      subst e1
      subst e3
      obtain ⟨a, b, c, rfl⟩ := ht rfl
      exact ⟨s_ienu g1 g2 e4 (ih.e C h1).1, fun _ _ => rfl⟩
    · simp only [Option.bind_eq_bind, Option.bind_eq_some_iff, Option.some.injEq] at h
      obtain ⟨c1, h1, rfl⟩ := h
      exact seqq h1
  · split at h
    · rename_i hb
      obtain ⟨e1, e2, e3, e4, e5⟩ := hb
      simp only [Option.bind_eq_bind, Option.bind_eq_some_iff, Option.some.injEq] at h
      obtain ⟨c1, h1, c2, h2, rfl⟩ := h
      obtain ⟨g1, g2, g3, g4⟩ := isBl_of C e2
      subst e1
      subst e3
      obtain ⟨a, b, c, rfl⟩ := ht rfl
      exact ⟨s_izip g1 g2 e4 e5 (ih.e C h1).1 (ih.e C h2).1, fun _ _ => rfl⟩
    · simp only [Option.bind_eq_bind, Option.bind_eq_some_iff, Option.some.injEq] at h
      obtain ⟨c1, h1, rfl⟩ := h
      exact seqq h1
  · cases h
  · simp only [Option.bind_eq_bind, Option.bind_eq_some_iff, Option.some.injEq] at h
    obtain ⟨c1, h1, rfl⟩ := h
    exact seqq h1
/-- THE expressions -/
theorem snd_all (p : Pm) (G : Gb) : ∀ n, Snd p G n
  | 0 => ⟨fun _ h => (by unfold cE at h; cases h), fun _ h => (by unfold cCall at h; cases h), fun _ h => (by unfold cA at h; cases h), fun _ h => (by unfold cAnd at h; cases h), fun _ h => (by unfold cOr at h; cases h), fun _ h => (by unfold cO at h; cases h), fun _ _ h => (by unfold cI at h; cases h)⟩
  | n + 1 =>
    have ih := snd_all p G n
    ⟨fun C h => snd_e ih C h, fun C h => snd_call ih C h, fun C h => snd_a ih C h, fun C h => snd_and ih C h, fun C h => snd_or ih C h, fun C h => snd_o ih C h, fun C t h => snd_i ih C t h⟩
end G
set_option maxHeartbeats 1000000
namespace G
open PySem PySem.Spec PyProof.Rows L2
variable {p : Pm} {G : Gb} {L : LamC} {X : Cx} {sc : Scope} {N : List Str} {F F2 : Orc} {W : WX} {n : Nat}
structure ExK (p : Pm) (X : Cx) (x : Str) (c : Nat) : Prop where
  ex : ∃ (B newId initId : String) (bmB : List Value), ExcBaseFacts B newId initId bmB ∧ PySem.W.excIn X.K (p.XA c) bmB newId = true ∧ X.mg x = some (.ref (p.XA c)) ∧ PySem.W.keepIn X.K (.ref (p.XA c)) = true ∧ Raises X (.ref (p.XA c))
structure CKS (p : Pm) (G : Gb) (L : LamC) (X : Cx) (sc : Scope) (N : List Str) (F F2 : Orc) (W : WX) : Prop where
  ck : CK p G L X sc N F F2 W
  fnc : ∀ x, X.fn x = true
  pass : PassesOwn (model X.prog X.w) X.A X.env X.xe
  exs : ∀ x c, G.exs.lookup x = some c → ExK p X x c
theorem CKS.loc (C : CKS p G L X sc N F F2 W) (x : Str) (h : sc.names.lookup x = some .local ∨ sc.names.lookup x = some .cell) : Loc X.env.scope x ∧ (X.fn x = true ∨ X.env.scope.names.lookup x = some .local) := by
  rw [C.ck.hsc]
  exact ⟨h, .inl (C.fnc x)⟩
theorem cE_lc {elt : Expr} {gs : List Comprehension} {scope : Scope} {q : Pos} {c : Ex} (C : CK p G L X sc N F F2 W) (h : cE G L (n + 1) sc N (.ListComp elt gs scope q) = some c) :
    (∃ tg it ifs own rt re is ri tup, gs = [⟨tg, it, ifs, 0⟩] ∧ (fun ρ S => ev c F F2 ρ S) = comR rt re is ri (own.map (·.2)) ∧ LcP p X W elt tg it ifs scope own rt re is ri tup) ∨
    ∃ tg it tg1 it1 ifs1 own rt re is ri is1 ri1 tup tup1, gs = [⟨tg, it, [], 0⟩, ⟨tg1, it1, ifs1, 0⟩] ∧ (fun ρ S => ev c F F2 ρ S) = co2R rt re is ri is1 ri1 (own.map (·.2)) ∧ Lc2P p X W elt tg it tg1 it1 ifs1 scope own rt re is ri is1 ri1 tup tup1 := by
  have ih := snd_all p G n
  unfold cE at h
  split at h
  all_goals first | (rename_i e; cases e; done) | skip
  · rename_i e
    cases e
    split at h
    · rename_i hb
      simp only [Option.bind_eq_bind, Option.bind_eq_some_iff, Option.some.injEq] at h
      obtain ⟨is, h1, ci, h2, ct, h3, ce, h4, rfl⟩ := h
      exact .inl ⟨_, _, _, _, _, _, _, _, _, rfl, rfl, lcp_of ih C hb h1 h2 h3 h4⟩
    · cases h
  · rename_i e
    cases e
    split at h
    · rename_i hb
      simp only [Option.bind_eq_bind, Option.bind_eq_some_iff, Option.some.injEq] at h
      obtain ⟨is, h1, ci, h2, is1, h5, ci1, h6, ct, h3, ce, h4, rfl⟩ := h
      exact .inr ⟨_, _, _, _, _, _, _, _, _, _, _, _, _, _, rfl, rfl, lc2p_of ih C hb h1 h2 h5 h6 h3 h4⟩
    · cases h
  · cases h
end G
set_option maxHeartbeats 1000000
namespace G
open PySem PySem.Spec PyProof.Rows L2
variable {p : Pm} {G : Gb} {L : LamC} {X : Cx} {sc : Scope} {N : List Str} {F F2 : Orc} {W : WX} {n : Nat}
theorem lst_inv {e : Expr} {es : List Expr} {q : Pos} {c : Ex} (C : CK p G L X sc N F F2 W) (h : cE G L (n + 1) sc N (.List es q) = some c) : ∃ c2, c = .lst c2 ∧ cA G L n sc N es = some c2 := by
  unfold cE at h
  simp only [Option.bind_eq_bind, Option.bind_eq_some_iff, Option.some.injEq] at h
  obtain ⟨c2, h2, rfl⟩ := h
  exact ⟨c2, rfl, h2⟩
theorem fresh_e {e : Expr} {c : Ex} (C : CK p G L X sc N F F2 W) (h : cE G L (n + 1) sc N e = some c) (hf : freshE e c = true) : PE X e (tD p (mutR (fun ρ S => ev c F F2 ρ S)) W) := by
  cases e with
  | List es q =>
    obtain ⟨c2, rfl, h2⟩ := lst_inv (e := .List es q) C h
    exact s_mlst ((snd_all p G n).a C h2).1
  | ListComp elt gs scope q =>
    rcases cE_lc C h with ⟨tg, it, ifs, own, rt, re, is, ri, tup, rfl, er, P⟩ | ⟨tg, it, tg1, it1, ifs1, own, rt, re, is, ri, is1, ri1, tup, tup1, rfl, er, P⟩
    · rw [er]; exact P.pem C.calm C.nd
    · rw [er]; exact P.pem C.calm C.nd
  | Call f args kws q =>
    cases c with
    | pri pr c2 =>
      cases pr with
      | list =>
        cases f with
        | Name f fq =>
          rcases args with _ | ⟨a, _ | ⟨a2, l⟩⟩
          · simp [freshE] at hf
          · cases kws with
            | nil =>
              have hf' := hf
              unfold freshE at hf'
              rw [Bool.and_eq_true] at hf'
              obtain ⟨hl, hnl⟩ := hf'
              have hl : f = ("list" : Str) := of_decide_eq_true hl
              subst hl
              have hcall : cCall G L n sc N ("list" : Str) [a] = some (.pri .list c2) := by
                unfold cE at h
                cases a <;> first | exact h | (simp at hnl)
              cases n with
              | zero => unfold cCall at hcall; cases hcall
              | succ n =>
                unfold cCall at hcall
                rw [show sset ("list" : Str) [a] = none from by unfold sset; exact if_neg (by decide +kernel)] at hcall
                simp only at hcall
                split at hcall
                · rename_i hg
                  obtain ⟨g1, g2, g3⟩ := isGl_of hg C.hsc
                  split at hcall
                  · split at hcall
                    · simp only [Option.bind_eq_bind, Option.bind_eq_some_iff, Option.some.injEq] at hcall
                      obtain ⟨_, _, z⟩ := hcall
                      cases z
                    · cases hcall
                  · split at hcall
                    · rename_i hb
                      simp only [Option.bind_eq_bind, Option.bind_eq_some_iff, Option.some.injEq] at hcall
                      obtain ⟨pr, h1, c3, h2, z⟩ := hcall
                      cases z
                      obtain ⟨a1, a2⟩ := (snd_all p G n).a C h2
                      exact s_mlist C.hK C.calm g1 (C.blt _ (of_decide_eq_true hb)) (by decide +kernel) g2 g3 a1 a2
                    · cases hcall
                · cases hcall
            | cons k ks => simp [freshE] at hf
          · simp [freshE] at hf
        | _ => simp [freshE] at hf
      | _ => simp [freshE] at hf
    | _ => simp [freshE] at hf
  | _ => simp [freshE] at hf
theorem mk_e {e : Expr} {c : Ex} {m : Bool} (C : CK p G L X sc N F F2 W) (h : cE G L (n + 1) sc N e = some c) : PE X e (tD p (fun ρ S => ev (mk m e c) F F2 ρ S) W) := by
  unfold mk
  by_cases hm : (m && freshE e c) = true
  · rw [if_pos hm]
    rw [Bool.and_eq_true] at hm
    exact fresh_e C h hm.2
  · rw [if_neg hm]
    exact ((snd_all p G (n + 1)).e C h).1
theorem cMs_of {mv : List Str} (C : CK p G L X sc N F F2 W) : ∀ {xs : List Str} {es : List Expr} {c : Ex}, cMs G L (n + 1) sc N mv xs es = some c → PA X es (tDA p (fun ρ S => evA c F F2 ρ S) W) ∧ es.all notStar = true
  | [], [], c, h => by unfold cMs at h; cases h; exact ⟨s_nil, rfl⟩
  | [], _ :: _, c, h => by unfold cMs at h; cases h
  | _ :: _, [], c, h => by unfold cMs at h; cases h
  | x :: xs, e :: es, c, h => by
    unfold cMs at h
    split at h
    · rename_i hs
      simp only [Option.bind_eq_bind, Option.bind_eq_some_iff, Option.some.injEq] at h
      obtain ⟨c1, h1, c2, h2, rfl⟩ := h
      obtain ⟨a1, a2⟩ := cMs_of C h2
      exact ⟨s_cons hs (mk_e C h1) a1, by rw [List.all_cons, hs, a2]; rfl⟩
    · cases h
theorem swB_eq {ts vs : List Expr} {k k2 : Nat} {q q2 : Pos} {env : PySem.Env} {r : Option (List Str)} (hs : env.scope = sc) (h : swB sc ts vs = some r) : swappedStores [.Tuple ts k q] (.Tuple vs k2 q2) env = pure r := by
  subst hs
  unfold swB at h
  unfold swappedStores
  simp only
  have hbk : (if env.scope.kind.isAnnotationScope = true then ScopeKind.function else env.scope.kind) = env.blockKind := rfl
  rw [hbk] at h
  split at h
  · rename_i h1
    cases h
    rw [if_pos h1]
  rename_i h1
  rw [if_neg h1]
  split at h
  · rename_i h2
    cases h
    exact if_pos h2
  rename_i h2
  refine (if_neg h2).trans ?_
  simp only at h
  split at h
  · rename_i h3
    cases h
    exact if_pos h3
  rename_i h3
  refine (if_neg h3).trans ?_
  split at h
  · rename_i h4
    cases h
    exact if_pos h4
  rename_i h4
  refine (if_neg h4).trans ?_
  split at h
  · cases h
  rename_i h5
  cases h
  exact if_neg h5
theorem sw_name (e : Expr) (x : Str) (q : Pos) (l : Nat) (env : PySem.Env) : ∃ b : Bool, swapsWith e (some (.Name x q)) l env = pure b ∧ (b = true → env.kindOf x = some .local ∧ ((∃ a g s p, e = .ListComp a g s p) ∨ (∃ a g s p, e = .SetComp a g s p) ∨ ∃ a a2 g s p, e = .DictComp a a2 g s p)) := by
  unfold swapsWith
  cases e <;> try exact ⟨false, rfl, fun z => Bool.noConfusion z⟩
  · exact ⟨_, rfl, fun h => by
      simp only [Bool.and_eq_true, beq_iff_eq] at h
      exact ⟨h.1.1.2, .inl ⟨_, _, _, _, rfl⟩⟩⟩
  · exact ⟨_, rfl, fun h => by
      simp only [Bool.and_eq_true, beq_iff_eq] at h
      exact ⟨h.1.1.2, .inr (.inl ⟨_, _, _, _, rfl⟩)⟩⟩
  · exact ⟨_, rfl, fun h => by
      simp only [Bool.and_eq_true, beq_iff_eq] at h
      exact ⟨h.1.1.2, .inr (.inr ⟨_, _, _, _, _, rfl⟩)⟩⟩
end G
set_option maxHeartbeats 1000000
namespace G
open PySem PySem.Spec PyProof.Rows L2
variable {p : Pm} {G : Gb} {L : LamC} {X : Cx} {sc : Scope} {N : List Str} {F F2 : Orc} {W : WX} {n : Nat} {mv : List Str} {rm : Bool}
theorem asg_e {e : Expr} {x : Str} {q pos : Pos} {i : Nat} {c : Ex} {m : Bool} (C : CKS p G L X sc N F F2 W) (hi : locOf sc N x = some i) (h : cE G L (n + 1) sc N e = some c) :
    PS X (.Assign [.Name x q] e pos) (tS p (asgR i (fun ρ S => ev (mk m e c) F F2 ρ S)) W) := by
  obtain ⟨f1, f2⟩ := locOf_of hi
  obtain ⟨l1, l2⟩ := C.loc x f2
  have hN : X.N[i]? = some x := by rw [C.ck.hN]; exact f1
  obtain ⟨b, hb, hy⟩ := sw_name e x q pos.line X.env
  cases b with
  | false => exact s_asg C.ck.nd hN l1 l2 (mk_e C.ck h) hb
  | true =>
    obtain ⟨hl, ⟨elt, gs, scope, r, rfl⟩ | ⟨a, g, s, r, rfl⟩ | ⟨a, a2, g, s, r, rfl⟩⟩ := hy rfl
    · rcases cE_lc C.ck h with ⟨tg, it, ifs, own, rt, re, is, ri, tup, rfl, er, P⟩ | ⟨tg, it, tg1, it1, ifs1, own, rt, re, is, ri, is1, ri1, tup, tup1, rfl, er, P⟩
      · unfold mk
        by_cases hm : (m && freshE (.ListComp elt [⟨tg, it, ifs, 0⟩] scope r) c) = true
        · rw [if_pos hm]
          show PS X _ (tS p (asgR i (mutR fun ρ S => ev c F F2 ρ S)) W)
          rw [er]
          exact P.psm C.ck.calm C.ck.nd hN hl hb
        · rw [if_neg hm, er]
          exact P.ps C.ck.calm C.ck.nd hN hl hb
      · unfold mk
        by_cases hm : (m && freshE (.ListComp elt [⟨tg, it, [], 0⟩, ⟨tg1, it1, ifs1, 0⟩] scope r) c) = true
        · rw [if_pos hm]
          show PS X _ (tS p (asgR i (mutR fun ρ S => ev c F F2 ρ S)) W)
          rw [er]
          exact P.psm C.ck.calm C.ck.nd hN hl hb
        · rw [if_neg hm, er]
          exact P.ps C.ck.calm C.ck.nd hN hl hb
    · unfold cE at h; cases h
    · unfold cE at h; cases h
theorem sw_none {e : Expr} (h : notComp e = true) (l : Nat) (env : PySem.Env) : swapsWith e none l env = pure false := by
  unfold swapsWith
  cases e <;> first | rfl | simp [notComp] at h
theorem two_of {xs : List Str} {ps : List Pos} (h : ps.length = xs.length) (hl : xs.length = 2) : ∃ x y q r, xs = [x, y] ∧ ps = [q, r] := by
  rcases xs with _ | ⟨x, _ | ⟨y, _ | ⟨z, l⟩⟩⟩ <;> simp at hl
  rcases ps with _ | ⟨q, _ | ⟨r, _ | ⟨s, l⟩⟩⟩ <;> simp at h
  exact ⟨x, y, q, r, rfl, rfl⟩
theorem three_of {xs : List Str} {ps : List Pos} (h : ps.length = xs.length) (hl : xs.length = 3) : ∃ x y z q r s, xs = [x, y, z] ∧ ps = [q, r, s] := by
  rcases xs with _ | ⟨x, _ | ⟨y, _ | ⟨z, _ | ⟨z2, l⟩⟩⟩⟩ <;> simp at hl
  rcases ps with _ | ⟨q, _ | ⟨r, _ | ⟨s, _ | ⟨s2, l⟩⟩⟩⟩ <;> simp at h
  exact ⟨x, y, z, q, r, s, rfl, rfl⟩
theorem mapM2 {f : Str → Option Nat} {x y : Str} {is : List Nat} (h : [x, y].mapM f = some is) : ∃ i j, is = [i, j] ∧ f x = some i ∧ f y = some j := by
  simp only [List.mapM_cons, List.mapM_nil, Option.bind_eq_bind, Option.bind_eq_some_iff, Option.pure_def, Option.some.injEq] at h
  obtain ⟨i, h1, js, ⟨j, h2, ks, rfl, rfl⟩, rfl⟩ := h
  exact ⟨i, j, rfl, h1, h2⟩
theorem mapM3 {f : Str → Option Nat} {x y z : Str} {is : List Nat} (h : [x, y, z].mapM f = some is) : ∃ i j k, is = [i, j, k] ∧ f x = some i ∧ f y = some j ∧ f z = some k := by
  simp only [List.mapM_cons, List.mapM_nil, Option.bind_eq_bind, Option.bind_eq_some_iff, Option.pure_def, Option.some.injEq] at h
  obtain ⟨i, h1, js, ⟨j, h2, ks, ⟨k, h3, ls, rfl, rfl⟩, rfl⟩, rfl⟩ := h
  exact ⟨i, j, k, rfl, h1, h2, h3⟩
theorem par_e {ts es : List Expr} {k k2 : Nat} {q q2 pos : Pos} {xs : List Str} {is : List Nat} {c : Ex} (C : CKS p G L X sc N F F2 W) (hx : tgNames (.Tuple ts k q) = some xs) (ht : tgOf sc N (.Tuple ts k q) = some is) (hw : swB sc ts es = some (some xs)) (hl : xs.all (isLoc sc) = true) (he : xs.length = es.length) (h23 : xs.length = 2 ∨ xs.length = 3) (h : cMs G L (n + 1) sc N mv xs es = some c) :
    PS X (.Assign [.Tuple ts k q] (.Tuple es k2 q2) pos) (tS p (parR is (fun ρ S => evA c F F2 ρ S)) W) := by
  obtain ⟨_, _, hnd, ⟨xs', hx', hm⟩, _⟩ := tgOf_of (p := p) ht C.ck.calm C.ck.nd C.ck.hN C.loc
  rw [hx] at hx'
  cases hx'
  obtain ⟨ps, e1, e2⟩ := tgNames_some hx
  obtain ⟨a1, a2⟩ := cMs_of C.ck h
  have hloc : ∀ x ∈ xs, X.env.scope.names.lookup x = some .local := fun x hx => by
    have := List.all_eq_true.mp hl x hx
    rw [C.ck.hsc]
    exact of_decide_eq_true this
  have hN : ∀ x i, locOf sc N x = some i → X.N[i]? = some x := fun x i e => by rw [C.ck.hN]; exact (locOf_of e).1
  rcases h23 with h2 | h3
  · obtain ⟨x, y, r, s, rfl, rfl⟩ := two_of e2 h2
    obtain ⟨i, j, rfl, m1, m2⟩ := mapM2 hm
    rcases es with _ | ⟨a, _ | ⟨b, _ | ⟨c3, l⟩⟩⟩ <;> simp at he
    have e1 : ts = [.Name x r, .Name y s] := e1
    subst e1
    have hij : i ≠ j := fun z => by subst z; simp at hnd
    exact s_par2 C.ck.calm C.ck.nd (hN _ _ m1) (hN _ _ m2) hij (hloc x (by simp)) (hloc y (by simp)) a1 (swB_eq C.ck.hsc hw)
  · obtain ⟨x, y, z, r, s, t, rfl, rfl⟩ := three_of e2 h3
    obtain ⟨i, j, l, rfl, m1, m2, m3⟩ := mapM3 hm
    rcases es with _ | ⟨a, _ | ⟨b, _ | ⟨c3, _ | ⟨c4, l⟩⟩⟩⟩ <;> simp at he
    have e1 : ts = [.Name x r, .Name y s, .Name z t] := e1
    subst e1
    have hij : i ≠ j := fun z => by subst z; simp at hnd
    have hil : i ≠ l := fun z => by subst z; simp at hnd
    have hjl : j ≠ l := fun z => by subst z; simp at hnd
    exact s_par3 C.ck.calm C.ck.nd (hN _ _ m1) (hN _ _ m2) (hN _ _ m3) hij hil hjl (hloc x (by simp)) (hloc y (by simp)) (hloc z (by simp)) a1 (swB_eq C.ck.hsc hw)
theorem unp_e {ts : List Expr} {e : Expr} {k : Nat} {q pos : Pos} {is : List Nat} {r : Ev} (C : CKS p G L X sc N F F2 W) (ht : tgOf sc N (.Tuple ts k q) = some is) (hw : swappedStores [.Tuple ts k q] e X.env = pure none) (he : PE X e (tD p r W)) :
    PS X (.Assign [.Tuple ts k q] e pos) (tS p (unpR is r) W) := by
  obtain ⟨_, _, hnd, ⟨xs', hx', hm⟩, h2⟩ := tgOf_of (p := p) ht C.ck.calm C.ck.nd C.ck.hN C.loc
  obtain ⟨ps, e1, e2⟩ := tgNames_some hx'
  subst e1
  exact s_unp C.ck.calm C.ck.nd (namesAt_of C.ck.hN C.loc e2 hm) (h2 rfl) he hw
theorem swS_none {ts : List Expr} {k : Nat} {q : Pos} {e : Expr} {env : PySem.Env} (h : ∀ es k2 q2, e ≠ .Tuple es k2 q2) : swappedStores [.Tuple ts k q] e env = pure none := by
  unfold swappedStores
  cases e <;> first | rfl | exact absurd rfl (h _ _ _)
theorem s_rse {x m : Str} {j : Nat} {q q2 q3 pos : Pos} {c : Nat} (C : CKS p G L X sc N F F2 W) (hg : isGl sc x = true) (he : G.exs.lookup x = some c) : PS X (.Raise (some (.Call (.Name x q) [.Constant (.str m) j q2] [] q3)) none pos) (tS p (fun ρ S => .ex c .non ρ S) W) := by
  obtain ⟨B, newId, initId, bmB, e1, e2, e3, e4, e5⟩ := (C.exs x c he).ex
  obtain ⟨g1, g2, g3⟩ := isGl_of hg C.ck.hsc
  exact psWeak (L2N.ps_raise C.ck.calm C.ck.tk (L2N.pmk_own e1 e2 e3 e4 e5 g1 g3)) fun D σ H ⟨ρ, M, S, he, hs, q⟩ => q M H σ _ none (Ext.refl _ _) hs he ⟨rfl, rfl⟩
structure Snt (p : Pm) (G : Gb) (L : LamC) (X : Cx) (sc : Scope) (N mv : List Str) (rm : Bool) (F F2 : Orc) (W : WX) (n : Nat) : Prop where
  s : ∀ {st c}, cS G L sc N mv rm n st = some c → PS X st (tS p (fun ρ S => evS c F F2 ρ S) W)
  ss : ∀ {sts c}, cSs G L sc N mv rm n sts = some c → PSs X sts (tS p (fun ρ S => evS c F F2 ρ S) W)
theorem snt_s (C : CKS p G L X sc N F F2 W) (ih : Snt p G L X sc N mv rm F F2 W n) {st : Stmt} {c : St} (h : cS G L sc N mv rm (n + 1) st = some c) : PS X st (tS p (fun ρ S => evS c F F2 ρ S) W) := by
  have E := snd_all p G 60
  unfold cS at h
  split at h
  · cases h; exact s_pass
  · simp only [Option.bind_eq_bind, Option.bind_eq_some_iff, Option.some.injEq] at h
    obtain ⟨i, h1, c1, h2, rfl⟩ := h
    exact asg_e C h1 h2
  · split at h
    · rename_i hp
      rw [Bool.and_eq_true] at hp
      simp only [Option.bind_eq_bind, Option.bind_eq_some_iff, Option.some.injEq] at h
      obtain ⟨c1, h1, c2, h2, c3, h3, c4, h4, c5, h5, rfl⟩ := h
      exact s_st2 C.ck.hK C.ck.calm hp.1 hp.2 (E.e C.ck h1).1 (E.e C.ck h2).1 (E.e C.ck h3).1 (E.e C.ck h4).1 (E.e C.ck h5).1
    · cases h
  · simp only [Option.bind_eq_bind, Option.bind_eq_some_iff] at h
    obtain ⟨xs, h1, is, h2, h3⟩ := h
    split at h3
    · rename_i hh
      simp only [Option.bind_eq_some_iff, Option.some.injEq] at h3
      obtain ⟨c1, h4, rfl⟩ := h3
      exact par_e C h1 h2 hh.1 hh.2.1 hh.2.2.1 hh.2.2.2 h4
    · split at h3
      · rename_i hh
        simp only [Option.bind_eq_some_iff, Option.some.injEq] at h3
        obtain ⟨c1, h4, rfl⟩ := h3
        exact unp_e C h2 (swB_eq C.ck.hsc hh.1) (E.e C.ck h4).1
      · cases h3
  · rename_i hnt
    simp only [Option.bind_eq_bind, Option.bind_eq_some_iff, Option.some.injEq] at h
    obtain ⟨is, h1, c1, h2, rfl⟩ := h
    exact unp_e C h1 (swS_none fun es k2 q2 z => hnt es k2 q2 z) (E.e C.ck h2).1
  · split at h
    · rename_i hp
      simp only [Option.bind_eq_bind, Option.bind_eq_some_iff, Option.some.injEq] at h
      obtain ⟨c1, h1, c2, h2, c3, h3, rfl⟩ := h
      exact s_sti hp (E.e C.ck h1).1 (E.e C.ck h2).1 (E.e C.ck h3).1
    · cases h
  · split at h
    · rename_i hp
      simp only [Option.bind_eq_bind, Option.bind_eq_some_iff, Option.some.injEq] at h
      obtain ⟨c1, h1, rfl⟩ := h
      exact s_exp (E.e C.ck h1).1 (sw_none hp _ _)
    · cases h
  · simp only [Option.bind_eq_bind, Option.bind_eq_some_iff, Option.some.injEq] at h
    obtain ⟨c1, h1, rfl⟩ := h
    exact s_ret (mk_e C.ck h1)
  · cases h; exact s_retN
  · simp only [Option.bind_eq_bind, Option.bind_eq_some_iff, Option.some.injEq] at h
    obtain ⟨c1, h1, c2, h2, c3, h3, rfl⟩ := h
    exact s_ifs (E.e C.ck h1).2 (ih.ss h2) (ih.ss h3)
  · simp only [Option.bind_eq_bind, Option.bind_eq_some_iff, Option.some.injEq] at h
    obtain ⟨c1, h1, c2, h2, rfl⟩ := h
    exact s_whl C.pass (E.e C.ck h1).2 (ih.ss h2)
  · simp only [Option.bind_eq_bind, Option.bind_eq_some_iff, Option.some.injEq] at h
    obtain ⟨is, h1, h⟩ := h
    obtain ⟨t1, t2, _⟩ := tgOf_of (p := p) h1 C.ck.calm C.ck.nd C.ck.hN C.loc
    split at h
    · rename_i hm
      simp only [Option.bind_eq_some_iff, Option.some.injEq] at h
      obtain ⟨c1, h2, c2, h3, rfl⟩ := h
      refine s_fol C.ck.hK C.pass C.ck.calm (E.e C.ck h2).1 t1 (ih.ss h3) fun x => ?_
      rename_i it _ _ _
      cases it <;> first | rfl | (exact absurd hm Bool.false_ne_true)
    · simp only [Option.bind_eq_some_iff, Option.some.injEq] at h
      obtain ⟨c1, h2, c2, h3, rfl⟩ := h
      obtain ⟨i1, i2⟩ := E.i C.ck t2 h2
      exact s_for C.pass C.ck.calm i1 t1 (ih.ss h3) fun x => i2 _ x
  · split at h
    · rename_i hg
      simp only [Option.bind_eq_bind, Option.bind_eq_some_iff, Option.some.injEq] at h
      obtain ⟨c1, h1, rfl⟩ := h
      exact s_rse C hg h1
    · cases h
  · cases h
theorem snt_ss (C : CKS p G L X sc N F F2 W) (ih : Snt p G L X sc N mv rm F F2 W n) {sts : List Stmt} {c : St} (h : cSs G L sc N mv rm (n + 1) sts = some c) : PSs X sts (tS p (fun ρ S => evS c F F2 ρ S) W) := by
  cases sts with
  | nil => unfold cSs at h; cases h; exact s_nop
  | cons s r =>
    unfold cSs at h
    simp only [Option.bind_eq_bind, Option.bind_eq_some_iff, Option.some.injEq] at h
    obtain ⟨c1, h1, c2, h2, rfl⟩ := h
    exact s_seq (ih.s h1) (ih.ss h2)
/-- THE statements -/
theorem snt_all (C : CKS p G L X sc N F F2 W) : ∀ n, Snt p G L X sc N mv rm F F2 W n
  | 0 => ⟨fun h => (by unfold cS at h; cases h), fun h => (by unfold cSs at h; cases h)⟩
  | n + 1 => ⟨fun h => snt_s C (snt_all C n) h, fun h => snt_ss C (snt_all C n) h⟩
end G
set_option maxHeartbeats 1000000
namespace G
open PySem PySem.Spec PyProof.Rows L2
theorem zip_lookup : ∀ {ps : List Str} {us : List Value} {x : Str}, x ∈ ps → us.length = ps.length → ((ps.zip us).lookup x).isSome = true
  | q :: ps, u :: us, x, h, hl => by
    rw [List.zip_cons_cons, List.lookup_cons]
    by_cases e : x = q
    · subst e; simp
    · have : (x == q) = false := by simpa using e
      rw [this]
      exact zip_lookup ((List.mem_cons.mp h).resolve_left e) (Nat.succ.inj hl)
theorem fm_congr {α β : Type} {f g : α → Option β} : ∀ {l : List α}, (∀ x ∈ l, f x = g x) → l.filterMap f = l.filterMap g
  | [], _ => rfl
  | x :: l, h => by
    rw [List.filterMap_cons, List.filterMap_cons, h x List.mem_cons_self, fm_congr fun y hy => h y (List.mem_cons_of_mem _ hy)]
theorem filterMap_zip : ∀ {ps : List Str} {us : List Value}, ps.Nodup → us.length = ps.length → (ps.filterMap fun n => ((ps.zip us).lookup n).map (n, ·)) = ps.zip us
  | [], us, _, _ => by simp
  | q :: ps, [], _, hl => by cases hl
  | q :: ps, u :: us, hn, hl => by
    have hn' := List.nodup_cons.mp hn
    rw [List.zip_cons_cons, List.filterMap_cons]
    have e1 : List.lookup q ((q, u) :: ps.zip us) = some u := by rw [List.lookup_cons]; simp
    rw [e1]
    simp only [Option.map_some]
    congr 1
    have ih := filterMap_zip hn'.2 (Nat.succ.inj hl)
    have hc : (ps.filterMap fun n => (List.lookup n ((q, u) :: ps.zip us)).map (n, ·)) = ps.filterMap fun n => ((ps.zip us).lookup n).map (n, ·) := by
      refine fm_congr fun n hm => ?_
      rw [List.lookup_cons]
      have : (n == q) = false := by
        rw [beq_eq_false_iff_ne]
        intro z
        subst z
        exact hn'.1 hm
      rw [this]
    rw [hc]
    exact ih
theorem bind_plain {x qual : Str} {args : List Arg} {body : List Stmt} {scope : Scope} {kV doc pm cdv ct : Value} {an : Option Addr} {us : List Value} (hn : (args.map (·.arg)).Nodup) (hl : us.length = (args.map (·.arg)).length) :
    bindArgs (PySem.W.fnOf x qual ⟨[], args, none, [], [], none, []⟩ body scope .none kV doc pm an cdv ct) ⟨us, []⟩ = pure ((args.map (·.arg)).zip us) := by
  unfold bindArgs PySem.W.fnOf
  have hs : seqItems? Value.none = (pure none : Sem _) := rfl
  have hm : (args.map (·.arg)).filter (fun n => (((args.map (·.arg)).zip us).lookup n).isNone) = [] := by
    rw [List.filter_eq_nil_iff]
    intro x hx
    have := zip_lookup hx hl
    cases e : ((args.map (·.arg)).zip us).lookup x with
    | none => rw [e] at this; cases this
    | some v => simp
  have hb := filterMap_zip hn hl
  have hg : decide (us.length > (args.map (·.arg)).length) = false := by rw [hl]; simp
  simp only [List.map_nil, List.nil_append, List.append_nil, List.forIn_nil, pure_bind, hs, hg, Bool.false_and, Bool.false_eq_true, if_false, Option.getD_none, List.length_nil, Nat.zero_sub, List.drop_nil, Nat.sub_zero, List.take_length, List.drop_length, List.zip_nil_left, hm, List.isEmpty_nil, Bool.not_true, hb]
variable {p : Pm} {G : Gb} {L : LamC} {N : List Str} {F F2 : Orc} {P : Program} {w : World} {mg : Str → Option Value} {base : Heap}
theorem cF_of {st : Stmt} {fi : FI} (h : cF G L N st = some fi) : ∃ name args body b1 b2 sc q1 q2 q3 mv rm, st = .FunctionDef name args body [] b1 b2 sc q1 q2 q3 ∧ (∃ as, args = ⟨[], as, none, [], [], none, []⟩) ∧ FnScope N (args.args.map (·.arg)) sc ∧ fi.ar = (args.args.map (·.arg)).length ∧ fi.nl = N.length ∧ cSs G L sc N mv rm 60 body = some fi.body := by
  unfold cF at h
  split at h
  · rename_i name args body b1 b2 sc q1 q2 q3
    simp only [Option.bind_eq_bind] at h
    split at h
    · rename_i hh
      obtain ⟨h1, h2, h3, h4, h5, h6, h7, h8⟩ := hh
      simp only [Option.bind_eq_some_iff, Option.some.injEq] at h
      obtain ⟨c, hc, rfl⟩ := h
      refine ⟨name, args, body, b1, b2, sc, q1, q2, q3, _, _, rfl, ?_, ⟨h1, h2, h3, h4, h5, fun x hx => ?_, fun y hy => ?_⟩, rfl, rfl, hc⟩
      · unfold plainPar at h8
        split at h8
        · exact ⟨_, rfl⟩
        · cases h8
      · exact of_decide_eq_true (List.all_eq_true.mp h6 x hx)
      · exact of_decide_eq_true (List.all_eq_true.mp h7 y hy)
    · cases h
  · cases h
theorem start_env {K : PySem.W.Frag} {M : Ms} {H : Hp} {pvs : List PV} {vs : List V} (r : RepL K M H pvs vs) (hl : vs.length ≤ N.length) : EnvOk K M H (pvs.map some ++ List.replicate (N.length - vs.length) none) (L2.start N vs) := by
  unfold L2.start
  refine ⟨by simp [r.length], fun i v e => ?_⟩
  by_cases hi : i < pvs.length
  · rw [List.getElem?_append_left (by rw [List.length_map]; exact hi), List.getElem?_map] at e
    cases e2 : pvs[i]? with
    | none => rw [e2] at e; cases e
    | some x =>
      rw [e2] at e
      cases e
      obtain ⟨u, e3, r3⟩ := r.get e2
      refine ⟨u, ?_, r3⟩
      rw [List.getElem?_append_left (by rw [List.length_map, ← r.length]; exact hi), List.getElem?_map, e3]
      rfl
  · rw [List.getElem?_append_right (by rw [List.length_map]; omega), List.getElem?_replicate] at e
    split at e <;> cases e
/-- a def whose body is compiled keeps its promise -/
theorem fn_ok {Pg : Prg} {g : Nat} {fi : FI} {st : Stmt} {x : Str} {f : Addr} {fd : FuncData} {k : Nat} (hg : Pg.lookup g = some fi) (hc : cF G L N st = some fi) (D : FunD p.K x x (defArgs st) (defBody st) (defScope st) [] [] f fd)
    (C : ∀ (cdv : Value) (A : Around) (outer : List PySem.Env) (s : Shared) (H : Hp) (E : XK), fd.code = cdv → Room k (A.deeper (envOfC x (defScope st) s.heap.objs.size f cdv)) →
      CKS p G L (cxOf (L2N.CX P w) P w p.K mg base N x (defScope st) f cdv A outer s H E) (defScope st) N F F2 (fun cls d _ H => E cls d H)) :
    FnOk P w p.K mg base (L2N.CX P w) (k + 1) f fd ((defArgs st).args.map (·.arg)) (SpD p (step Pg F F2) g fi.ar) := by
  obtain ⟨name, args, body, b1, b2, sc, q1, q2, q3, mv, rm, rfl, ⟨as, rfl⟩, S, har, hnl, hb⟩ := cF_of hc
  obtain ⟨oc, od, dV, kV, doc, pm, an, cdv, ct, osl, rfl, lk, hcd, _, _⟩ := D.ex
  refine fn_of lk hcd S (fun vs H Q E h => by rw [h.1]; exact har) fun A outer s H vs Q E hr h => ?_
  obtain ⟨hl, pvs, M, S', r, ok, q⟩ := h
  have hll : vs.length ≤ N.length := by
    have := congrArg List.length S.pre
    rw [List.length_take] at this
    have e : vs.length = (as.map (·.arg)).length := by rw [hl]; exact har
    rw [e]
    have this : min (as.map (·.arg)).length N.length = (as.map (·.arg)).length := this
    omega
  have B := (snt_all (mv := mv) (rm := rm) (C cdv A outer s H E rfl hr) 60).ss hb
  refine ⟨_, B, ?_⟩
  refine ⟨_, M, S', start_env r hll, ok, ?_⟩
  have hpl : pvs.length = fi.ar := by rw [r.length]; exact hl
  unfold step at q
  rw [hg] at q
  simp only [if_pos hpl] at q
  have e1 : fi.nl - fi.ar = N.length - vs.length := by rw [hnl, hl]
  rw [e1] at q
  show PostS p (evS fi.body F F2 (pvs.map some ++ List.replicate (N.length - vs.length) none) S') M H _ _
  cases e : evS fi.body F F2 (pvs.map some ++ List.replicate (N.length - vs.length) none) S' with
  | nx ρ S1 =>
    rw [e] at q
    exact fun M' H' σ' e1 s1 _ => q M' H' .non e1 s1 (by unfold Rep; rfl)
  | rt v S1 =>
    rw [e] at q
    exact q
  | ex c v ρ S1 =>
    rw [e] at q
    exact fun M' H' σ' cls d e1 s1 _ hr => q M' H' cls d e1 s1 hr
  | bad => rw [e] at q; exact q
end G
set_option maxHeartbeats 1000000
namespace G
open PySem PySem.Spec PyProof.Rows L2 HotX
section
variable {prog : Program} {w : World} {A : Around} {E : Value → Shared → Prop} {s : Shared}
theorem hot_keep {x1 : Addr} {h h' : Heap} (hot : HotAt A x1 h) (k : ∀ o, h.get? x1 = some o → h'.get? x1 = some o) : HotAt A x1 h' := by
  obtain ⟨e, o, vs, h1, h2, h3⟩ := hot
  exact ⟨e, o, vs, k o h1, h2, h3⟩
theorem hot_list_end {ia la x1 : Addr} {n : Nat} {its : Array Value} {Q : Value → Shared → Prop} (hot : HotAt A x1 s.heap) (hne : x1 ≠ ia) (hi : s.heap.IsListIter ia la n) (hla : s.heap.IsList la its) (hend : its[n]? = none)
    (hE : ∀ h' e, Heap.ExtBut ia s.heap h' → (∃ o, h'.get? e = some o ∧ o.cls = .type "StopIteration") → E (.ref e) { s with heap := h' }) : wpAny (model prog w) A (Builtin.SmallTypes.nextOf (.ref ia)) Q E s := by
  obtain ⟨oi, hoi, hci, hdi⟩ := id hi
  obtain ⟨oa, hoa, _, ka, hda⟩ := hla
  obtain ⟨hh, ox, vx, x_at, x_d, x_c⟩ := hot
  unfold Builtin.SmallTypes.nextOf
  refine wpAny_bind (wpAny_callSpecial?_slot (name := Str.ofString "__next__") hi.typeIs slot_listiter_next (wpAny_call_entry slot_listiter_next hi.typeIs entry_listiter_next ?_ (args_listiter_next _)))
  show wpAny _ _ (field (.ref ia) 0 >>= _) _ _ s
  refine wpAny_bind (wpAny_field hoi hdi (x := .ref la) rfl ?_)
  show wpAny _ _ (if (Value.ref la == Value.none) = true then _ else _) _ _ s
  rw [if_neg (show ¬ ((Value.ref la == Value.none) = true) from Bool.false_ne_true)]
  show wpAny _ _ (field (.ref ia) 1 >>= _) _ _ s
  refine wpAny_bind (wpAny_field hoi hdi (x := .int n 0) rfl ?_)
  show wpAny _ _ (seqItems? (.ref la) >>= _) _ _ s
  refine wpAny_bind (wpAny_seqItems hoa hda ?_)
  simp only [Int.toNat_natCast, hend]
  refine wpAny_bind (wpAny_rule (wpAny_bind (wpAny_setField hoi hdi (by simp) ?_)))
  show wpAny _ _ (newExc (.type "StopIteration") [] >>= _) _ _ _
  refine wpAny_bind ?_
  simp only [newExc, newTuple]
  refine wpAny_bind (wpAny_newObj_type ?_ (by size_fits))
  refine wpAny_bind (m := firstArgMember _ _) (wpAny_of_eq (a := Value.none) (by first | rfl | (simp only [firstArgMember]; rfl)) ?_)
  refine wpAny_newObj_type ?_ (by size_fits)
  have x_at2 := (Heap.get?_update_other s.heap (Obj.mapFields (·.setIfInBounds 0 Value.none)) (Ne.symm hne)).trans x_at
  refine raiseNew_hot ⟨hh, ox, vx, Heap.get?_push_of_some _ (Heap.get?_push_of_some _ x_at2), x_d, x_c⟩ (Nat.ne_of_lt (Heap.lt_size (Heap.get?_push_of_some _ x_at2))) (Heap.get?_push_size _ rfl) rfl (by first | (simp; done) | (simp; omega) | (simp only [Array.size_append]; simp; omega)) ?_
  refine hE _ _ (fun b o hb e => ?_) ⟨_, Heap.get?_update_self _ (Heap.get?_push_size _ rfl) rfl, rfl⟩
  have e1 := Heap.get?_push_of_some { cls := .type "tuple", data := .seq #[] } (((Heap.get?_update_other s.heap (Obj.mapFields (·.setIfInBounds 0 Value.none)) (Ne.symm hb))).trans e)
  rw [Heap.get?_update_other _ _ (Nat.ne_of_gt (Heap.lt_size e1))]
  exact Heap.get?_push_of_some _ e1
theorem hot_zip_next {z TI TO i1 i2 a1 a2 x1 : Addr} {k1 k2 : Nat} {xs ys : Array Value} {u v : Value} {Q : Fin → Shared → Prop} (hot : HotAt A x1 s.heap) (n0 : x1 ≠ z) (n1 : x1 ≠ TO) (n2 : x1 ≠ i1) (n3 : x1 ≠ i2) (D : ZipApart z TI TO i1 i2 a1 a2)
    (hz : IsZip s.heap z TI TO .none) (hTI : IsPair s.heap TI (.ref i1) (.ref i2)) (hTO : IsPair s.heap TO u v) (g1 : s.heap.IsListIter i1 a1 k1) (g2 : s.heap.IsListIter i2 a2 k2) (l1 : s.heap.IsList a1 xs) (l2 : s.heap.IsList a2 ys) (hend : xs[k1]? = none ∨ ys[k2]? = none)
    (hE : ∀ h' e, (∀ c o, c ≠ z → c ≠ TO → c ≠ i1 → c ≠ i2 → s.heap.get? c = some o → h'.get? c = some o) → (∃ o, h'.get? e = some o ∧ o.cls = .type "StopIteration") → E (.ref e) { s with heap := h' }) :
    wpAny (model prog w) A (Builtin.«zip.__next__» ⟨[.ref z], []⟩) Q E s := by
  show wpAny _ _ (field (.ref z) 2 >>= _) _ _ _
  refine wpAny_bind (wpAny_field hz rfl (x := .bool false) rfl ?_)
  show wpAny _ _ (field (.ref z) 3 >>= _) _ _ _
  refine wpAny_bind (wpAny_field hz rfl (x := .ref TI) rfl (wpAny_bind (wpAny_seqItems hTI rfl ?_)))
  show wpAny _ _ (Builtin.SmallTypes.ownedTupleIsFree (.ref z) >>= _) _ _ _
  unfold Builtin.SmallTypes.ownedTupleIsFree
  refine wpAny_bind (wpAny_bind (wpAny_field hz rfl (x := .none) rfl (wpAny_pure ?_)))
  simp only [if_true]
  refine wpAny_bind (wpAny_rule (wpAny_bind (wpAny_field hz rfl (x := .ref TO) rfl (wpAny_bind (wpAny_setField_rec hz (by simp) fun m₁ hz₁ st₁ => ?_)))))
  replace hz₁ : IsZip m₁ z TI TO .ellipsis := hz₁
  have hot₁ : HotAt A x1 m₁ := hot_keep hot fun o e => st₁.extBut _ _ n0 e
  refine wpAny_bind ?_
  simp only [List.zipIdx_cons, List.zipIdx_nil, List.forIn_cons, List.forIn_nil]
  refine wpAny_bind (wpAny_bind (wpAny_onRaise ?_))
  show wpAny _ _ (Builtin.SmallTypes.nextOf (.ref i1) >>= _) _ _ _
  have g1' := g1.extBut st₁.extBut D.i1z
  have l1' := l1.extBut st₁.extBut D.l1z
  cases hx : xs[k1]? with
  | none =>
    refine wpAny_bind (hot_list_end hot₁ n2 g1' l1' hx fun m₂ e st₂ he => ?_)
    obtain ⟨oe, hoe, hce⟩ := he
    have hz₂ : IsZip m₂ z TI TO .ellipsis := st₂ _ _ D.i1z.symm hz₁
    have hez : e ≠ z := fun q => by subst q; rw [hz₂] at hoe; cases hoe; simp at hce
    exact wpAny_setField_rec hz₂ (by simp) fun m₃ _ st₃ => hE m₃ e (fun c o c1 _ c3 _ q => st₃.extBut _ _ c1 (st₂ _ _ c3 (st₁.extBut _ _ c1 q))) ⟨oe, st₃.extBut _ _ hez hoe, hce⟩
  | some x =>
    have hy : ys[k2]? = none := hend.resolve_left (by rw [hx]; simp)
    refine wpAny_bind (wpAny_nextOf_list_item g1' l1' hx fun m₂ g1₂ st₂ => wpAny_pure ?_)
    have hTO₂ : IsPair m₂ TO u v := st₂.extBut _ _ D.TOi1 (st₁.extBut _ _ D.TOz hTO)
    have hot₂ : HotAt A x1 m₂ := hot_keep hot₁ fun o e => st₂.extBut _ _ n2 e
    refine wpAny_bind (wpAny_seqItems hTO₂ rfl (wpAny_bind (wpAny_updateSeq_pair hTO₂ fun m₃ hTO₃ st₃ => ?_)))
    have hot₃ : HotAt A x1 m₃ := hot_keep hot₂ fun o e => st₃.extBut _ _ n1 e
    refine wpAny_bind (wpAny_letGo (wpAny_pure (wpAny_bind (wpAny_bind (wpAny_onRaise ?_)))))
    show wpAny _ _ (Builtin.SmallTypes.nextOf (.ref i2) >>= _) _ _ _
    have g2' := ((g2.extBut st₁.extBut D.i2z).extBut st₂.extBut D.i12.symm).extBut st₃.extBut D.TOi2.symm
    have l2' := ((l2.extBut st₁.extBut D.l2z).extBut st₂.extBut D.l2i1).extBut st₃.extBut D.l2TO
    refine wpAny_bind (hot_list_end hot₃ n3 g2' l2' hy fun m₄ e st₄ he => ?_)
    obtain ⟨oe, hoe, hce⟩ := he
    have hz₄ : IsZip m₄ z TI TO .ellipsis := st₄ _ _ D.i2z.symm (st₃.extBut _ _ D.TOz.symm (st₂.extBut _ _ D.i1z.symm hz₁))
    have hez : e ≠ z := fun q => by subst q; rw [hz₄] at hoe; cases hoe; simp at hce
    exact wpAny_setField_rec hz₄ (by simp) fun m₅ _ st₅ => hE m₅ e (fun c o c1 c2 c3 c4 q => st₅.extBut _ _ c1 (st₄ _ _ c4 (st₃.extBut _ _ c2 (st₂.extBut _ _ c3 (st₁.extBut _ _ c1 q))))) ⟨oe, st₅.extBut _ _ hez hoe, hce⟩
theorem hot_zip_end {z TI TO i1 i2 a1 a2 x1 : Addr} {k1 k2 : Nat} {xs ys : Array Value} {u v : Value} {Q : Option Value → Shared → Prop} (hot : HotAt A x1 s.heap) (n0 : x1 ≠ z) (n1 : x1 ≠ TO) (n2 : x1 ≠ i1) (n3 : x1 ≠ i2) (D : ZipApart z TI TO i1 i2 a1 a2)
    (hz : IsZip s.heap z TI TO .none) (hTI : IsPair s.heap TI (.ref i1) (.ref i2)) (hTO : IsPair s.heap TO u v) (g1 : s.heap.IsListIter i1 a1 k1) (g2 : s.heap.IsListIter i2 a2 k2) (l1 : s.heap.IsList a1 xs) (l2 : s.heap.IsList a2 ys) (hend : xs[k1]? = none ∨ ys[k2]? = none)
    (hQ : ∀ h', (∀ c o, c ≠ z → c ≠ TO → c ≠ i1 → c ≠ i2 → s.heap.get? c = some o → h'.get? c = some o) → Q none { s with heap := h' }) : wpAny (model prog w) A (pyNext (.ref z)) Q E s := by
  have hT : s.TypeIs (.ref z) "zip" := ⟨_, hz, rfl⟩
  unfold pyNext
  refine wpAny_bind (wpAny_attempt (wpAny_callSpecial?_slot (name := Str.ofString "__next__") hT F.slot_zip_next (wpAny_call_entry F.slot_zip_next hT F.entry_zip_next (hot_zip_next hot n0 n1 n2 n3 D hz hTI hTO g1 g2 l1 l2 hend fun h' e hk he => ?_) (F.args_zip_next_1 _))))
  obtain ⟨o, ho, hc⟩ := he
  exact wpAny_bind (wpAny_isInstance (T := "StopIteration") (b := true) ⟨o, ho, hc⟩ isSubtype_stop (wpAny_pure (hQ _ hk)))
end
section
variable {X : Cx} {elts : List Expr} {kk : Nat} {tpos : Pos} {a b z TI TO i1 i2 : Addr} {i : Nat} {pins : List (Addr × Obj)} {s : Shared} {σ : L2.St} {H : Hp} {E : Value → Shared → Prop}
/-- the zip's objects at turn i -/
def ZSt (z TI TO i1 i2 a b : Addr) (i : Nat) (h : Heap) : Prop := IsZip h z TI TO .none ∧ IsPair h TI (.ref i1) (.ref i2) ∧ (∃ x y, IsPair h TO x y) ∧ h.IsListIter i1 a i ∧ h.IsListIter i2 b i
theorem ZSt.obj {h : Heap} (st : ZSt z TI TO i1 i2 a b i h) (c : Addr) (hc : c ∈ [z, TI, TO, i1, i2]) : ∃ o, h.get? c = some o ∧ ∀ v, o.data ≠ .cell v := by
  obtain ⟨hz, hTI, ⟨x, y, hTO⟩, ⟨o1, e1, _, d1⟩, ⟨o2, e2, _, d2⟩⟩ := st
  simp only [List.mem_cons, List.not_mem_nil, or_false] at hc
  rcases hc with rfl | rfl | rfl | rfl | rfl
  · exact ⟨_, hz, fun v q => nomatch q⟩
  · exact ⟨_, hTI, fun v q => nomatch q⟩
  · exact ⟨_, hTO, fun v q => nomatch q⟩
  · exact ⟨o1, e1, fun v q => by rw [d1] at q; cases q⟩
  · exact ⟨o2, e2, fun v q => by rw [d2] at q; cases q⟩
theorem ZSt.keep {h h' : Heap} (st : ZSt z TI TO i1 i2 a b i h) (k : ∀ c ∈ [z, TI, TO, i1, i2], ∀ o, h.get? c = some o → h'.get? c = some o) : ZSt z TI TO i1 i2 a b i h' := by
  obtain ⟨hz, hTI, ⟨x, y, hTO⟩, g1, g2⟩ := st
  exact ⟨k z (by simp) _ hz, k TI (by simp) _ hTI, ⟨x, y, k TO (by simp) _ hTO⟩, g1.at fun o q => k i1 (by simp) o q, g2.at fun o q => k i2 (by simp) o q⟩
theorem zip_item (D : ZipApart z TI TO i1 i2 a b) (I : Inv X pins σ H s) (hf : ∀ c ∈ [z, TI, TO, i1, i2], FpOk X pins H c) (st : ZSt z TI TO i1 i2 a b i s.heap) (hg : (Itz X.K a b).go i H) :
    wpAny (model X.prog X.w) X.A (pyNext (.ref z)) (fun r s1 => ∃ u, r = some u ∧ wpAny (model X.prog X.w) X.A (letOwnedTupleGo (.Tuple elts kk tpos) (.ref z) u)
      (fun _ s2 => ∃ x H', Inv X pins σ H' s2 ∧ RelV x u ∧ (Itz X.K a b).yld i H x H' ∧ ZSt z TI TO i1 i2 a b (i + 1) s2.heap ∧ ∀ c ∈ [z, TI, TO, i1, i2], H' c = none) E s1) E s := by
  obtain ⟨hz, hTI, ⟨x0, y0, hTO⟩, g1, g2⟩ := st
  obtain ⟨xs, ys, x, y, hqx, hqy, hx, hy⟩ := hg
  obtain ⟨ix, rx, px, _⟩ := I.list hqx
  obtain ⟨iy, ry, py, _⟩ := I.list hqy
  obtain ⟨u, hu, ru⟩ := rx.get hx
  obtain ⟨u2, hu2, ru2⟩ := ry.get hy
  have hzl : z < s.heap.objs.size := Heap.lt_size hz
  have out : ∀ c, c ∉ [z, TI, TO, i1, i2] → c ≠ z ∧ c ≠ TI ∧ c ≠ TO ∧ c ≠ i1 ∧ c ≠ i2 := fun c hc => by simpa using hc
  refine wpAny_pyNext_zip_item D hz hTI hTO g1 g2 px.isList py.isList (x := u) (y := u2) (by simpa using hu) (by simpa using hu2) fun m₁ z₁ TO₁ g1₁ g2₁ hT hsz hk => ?_
  refine ⟨_, rfl, wpAny_letOwnedTupleGo_zip (s := { s with heap := m₁ }) z₁ fun m₂ z₂ sb => ?_⟩
  have hT2 : m₂.get? s.heap.objs.size = some { cls := .type "tuple", data := .seq #[u, u2] } := (sb.2 _ (Nat.ne_of_gt hzl)).trans hT
  have I1 : Inv X pins σ (upd H s.heap.objs.size (.tup [x, y])) { s with heap := m₂ } :=
    I.turnedNew (t' := s.toks) (ch := [z, TI, TO, i1, i2]) (fun c o hc q => by
      obtain ⟨n0, _, n2, n3, n4⟩ := out c hc
      exact (sb.2 c n0).trans (hk c o n0 n2 n3 n4 q)) hf (Nat.le_refl _) ⟨by show 2 ≤ sizeLine; decide, [u, u2], .cons ru (.cons ru2 .nil), ⟨_, hT2, rfl, _, rfl⟩⟩
  refine ⟨.ref s.heap.objs.size, _, I1, rfl, ⟨_, x, y, rfl, I.hok.fresh (Nat.le_refl _), rfl, fun l hl => by rw [I.list_inj hl hqx]; exact hx, fun l hl => by rw [I.list_inj hl hqy]; exact hy⟩, ⟨z₂, (sb.2 _ D.TIz).trans (hk _ _ D.TIz D.TITO D.TIi1 D.TIi2 hTI), ⟨u, u2, (sb.2 _ D.TOz).trans TO₁⟩, g1₁.at fun o q => (sb.2 _ D.i1z).trans q, g2₁.at fun o q => (sb.2 _ D.i2z).trans q⟩, fun c hc => ?_⟩
  have hlt : c < s.heap.objs.size := by
    obtain ⟨o, e, _⟩ := ZSt.obj ⟨hz, hTI, ⟨x0, y0, hTO⟩, g1, g2⟩ c hc
    exact Heap.lt_size e
  rw [upd_ne (Nat.ne_of_lt hlt)]
  exact (hf c hc).1
theorem zip_done {x1 : Addr} (hot : HotAt X.A x1 s.heap) (hx1 : x1 ∉ [z, TI, TO, i1, i2]) (D : ZipApart z TI TO i1 i2 a b) (I : Inv X pins σ H s) (hf : ∀ c ∈ [z, TI, TO, i1, i2], FpOk X pins H c) (st : ZSt z TI TO i1 i2 a b i s.heap) (hg : (Itz X.K a b).stop i H) :
    wpAny (model X.prog X.w) X.A (pyNext (.ref z)) (fun r s1 => r = none ∧ Inv X pins σ H s1) E s := by
  obtain ⟨hz, hTI, ⟨x0, y0, hTO⟩, g1, g2⟩ := st
  obtain ⟨xs, ys, hqx, hqy, hend⟩ := hg
  obtain ⟨ix, rx, px, _⟩ := I.list hqx
  obtain ⟨iy, ry, py, _⟩ := I.list hqy
  have e1 := rx.length
  have e2 := ry.length
  have he : ix.toArray[i]? = none ∨ iy.toArray[i]? = none := hend.imp (fun q => by simp; omega) (fun q => by simp; omega)
  have out : ∀ c, c ∉ [z, TI, TO, i1, i2] → c ≠ z ∧ c ≠ TI ∧ c ≠ TO ∧ c ≠ i1 ∧ c ≠ i2 := fun c hc => by simpa using hc
  obtain ⟨m0, _, m2, m3, m4⟩ := out x1 hx1
  refine hot_zip_end hot m0 m2 m3 m4 D hz hTI hTO g1 g2 px.isList py.isList he fun m hk => ⟨rfl, I.turnedL (t' := s.toks) (ch := [z, TI, TO, i1, i2]) (fun c o hc q => ?_) hf⟩
  obtain ⟨n0, _, n2, n3, n4⟩ := out c hc
  exact hk c o n0 n2 n3 n4 q
end
end G
set_option maxHeartbeats 1000000
namespace G
open PySem PySem.Spec PyProof.Rows L2 HotX
section
variable {prog : Program} {w : World} {A : Around} {E : Value → Shared → Prop} {s : Shared}
theorem hot_tup_end {ia ta x1 : Addr} {n : Nat} {its : Array Value} {Q : Option Value → Shared → Prop} (hot : HotAt A x1 s.heap) (hne : x1 ≠ ia) (hi : IsTupIter s.heap ia ta n) (hta : IsTup s.heap ta its) (hend : its[n]? = none)
    (hQ : ∀ h', Heap.ExtBut ia s.heap h' → Q none { s with heap := h' }) : wpAny (model prog w) A (pyNext (.ref ia)) Q E s := by
  obtain ⟨oi, hoi, hci, hdi⟩ := id hi
  obtain ⟨oa, hoa, _, ka, hda⟩ := hta
  obtain ⟨hh, ox, vx, x_at, x_d, x_c⟩ := hot
  unfold pyNext
  refine wpAny_bind (wpAny_attempt (wpAny_callSpecial?_slot (name := Str.ofString "__next__") hi.typeIs slot_tupleiter_next (wpAny_call_entry slot_tupleiter_next hi.typeIs entry_tupleiter_next ?_ (args_tupleiter_next _))))
  show wpAny _ _ (field (.ref ia) 0 >>= _) _ _ s
  refine wpAny_bind (wpAny_field hoi hdi (x := .ref ta) rfl ?_)
  show wpAny _ _ (if (Value.ref ta == Value.none) = true then _ else _) _ _ s
  rw [if_neg (show ¬ ((Value.ref ta == Value.none) = true) from Bool.false_ne_true)]
  show wpAny _ _ (field (.ref ia) 1 >>= _) _ _ s
  refine wpAny_bind (wpAny_field hoi hdi (x := .int n 0) rfl ?_)
  show wpAny _ _ (seqItems? (.ref ta) >>= _) _ _ s
  refine wpAny_bind (wpAny_seqItems hoa hda ?_)
  simp only [Int.toNat_natCast, hend]
  refine wpAny_bind (wpAny_rule (wpAny_bind (wpAny_setField hoi hdi (by simp) ?_)))
  show wpAny _ _ (newExc (.type "StopIteration") [] >>= _) _ _ _
  refine wpAny_bind ?_
  simp only [newExc, newTuple]
  refine wpAny_bind (wpAny_newObj_type ?_ (by size_fits))
  refine wpAny_bind (m := firstArgMember _ _) (wpAny_of_eq (a := Value.none) (by first | rfl | (simp only [firstArgMember]; rfl)) ?_)
  refine wpAny_newObj_type ?_ (by size_fits)
  have x_at2 := (Heap.get?_update_other s.heap (Obj.mapFields (·.setIfInBounds 0 Value.none)) (Ne.symm hne)).trans x_at
  refine raiseNew_hot ⟨hh, ox, vx, Heap.get?_push_of_some _ (Heap.get?_push_of_some _ x_at2), x_d, x_c⟩ (Nat.ne_of_lt (Heap.lt_size (Heap.get?_push_of_some _ x_at2))) (Heap.get?_push_size _ rfl) rfl (by first | (simp; done) | (simp; omega) | (simp only [Array.size_append]; simp; omega)) ?_
  refine wpAny_bind (wpAny_isInstance (T := "StopIteration") (b := true) ⟨_, Heap.get?_update_self _ (Heap.get?_push_size _ rfl) rfl, rfl⟩ isSubtype_stop (wpAny_pure (hQ _ fun b o hb e => ?_)))
  have e1 := Heap.get?_push_of_some { cls := .type "tuple", data := .seq #[] } (((Heap.get?_update_other s.heap (Obj.mapFields (·.setIfInBounds 0 Value.none)) (Ne.symm hb))).trans e)
  rw [Heap.get?_update_other _ _ (Nat.ne_of_gt (Heap.lt_size e1))]
  exact Heap.get?_push_of_some _ e1
theorem hot_unpack {ta x1 : Addr} {its : Array Value} {targets : List (Bool × (Value → Sem Unit))} {Q : Unit → Shared → Prop} (hot : HotAt A x1 s.heap) (ht : IsTup s.heap ta its) (hn : targets.length = its.size) (hstar : targets.findIdx? (·.1) = none)
    (h : ∀ h', Heap.ExtBut s.heap.objs.size s.heap h' → wpAny (model prog w) A (assignInOrder (targets.map (·.2)) its.toList) Q E { s with heap := h' }) : wpAny (model prog w) A (unpack (.ref ta) targets) Q E s := by
  have hlt : ta ≠ s.heap.objs.size := by obtain ⟨o, ho, _⟩ := ht; exact Nat.ne_of_lt (Heap.lt_size ho)
  have hx : x1 ≠ s.heap.objs.size := by obtain ⟨_, o, _, ho, _⟩ := hot; exact Nat.ne_of_lt (Heap.lt_size ho)
  unfold unpack
  rw [hn, hstar]
  refine wpAny_bind (wpAny_holding ?_)
  unfold unpackItems
  refine wpAny_bind ?_
  · unfold notIterableAtAll
    refine wpAny_bind (wpAny_specialOf ht.typeIs slot_tuple_iter.lookup (wpAny_pure ?_))
    simp only [Bool.false_eq_true, if_false]
    refine wpAny_bind (wpAny_holding (iter_tuple ht (wpAny_bind (wpAny_holding (draw_tuple hlt its.size 0 _ _ ⟨_, Heap.get?_push_size _ rfl, rfl, rfl⟩ (ht.push _) (by omega) fun m₁ it₁ st₁ => ?_)))))
    have hall : List.take its.size (List.drop 0 its.toList) = its.toList := by rw [List.drop_zero]; exact List.take_of_length_le (by simp)
    rw [hall, if_neg (by simp)]
    have ht₁ : IsTup m₁ ta its := (ht.push _).extBut st₁.extBut hlt
    have hot₁ : HotAt A x1 m₁ := hot_keep hot fun o e => st₁.extBut _ _ hx (Heap.get?_push_of_some _ e)
    refine wpAny_bind (wpAny_holding (hot_tup_end hot₁ hx it₁ ht₁ (by simp) fun m₂ st₂ => ?_))
    simp only [Option.isSome_none, Bool.false_eq_true, if_false]
    exact wpAny_pure (h m₂ fun b o hb e => st₂ b o hb (st₁.extBut b o hb (Heap.get?_push_of_some _ e)))
end
variable {p : Pm} {X : Cx} {W : WX} {pos p2 : Pos} {tup : Bool}
/-- the context bears one handled exception -/
def HotX1 (X : Cx) : Prop := ∃ q : Addr × Obj, X.A.handled = some (.ref q.1) ∧ (∃ vs : Array Value, q.2.data = .fields vs ∧ vs[2]? = some .none) ∧ X.pn = [q]
theorem HotX1.at_ {pins : List (Addr × Obj)} {s : Shared} {σ : L2.St} {H : Hp} (h : HotX1 X) (I : Inv X pins σ H s) : ∃ x1, HotAt X.A x1 s.heap ∧ (∃ q, X.pn = [q] ∧ q.1 = x1) := by
  obtain ⟨q, h1, ⟨vs, h2, h3⟩, h4⟩ := h
  exact ⟨q.1, ⟨h1, q.2, vs, (I.pin q (by rw [h4]; simp)).1, h2, h3⟩, q, h4, rfl⟩
theorem s_tgH {es : List Expr} {is : List Nat} {k : Nat} (hc : HotX1 X) (hN : X.N.Nodup) (hn : NamesAt X es is) (hl : 2 ≤ is.length) : PG X (.Tuple es k pos) (tgD p tup is) := by
  obtain ⟨h1, h2⟩ := hn.each
  refine ⟨fun pins s σ H v u Q I r ⟨M, ρ, y, ρ', he, hr, hs, q⟩ => ?_⟩
  obtain ⟨xs, rfl, hlx, rfl⟩ := tgSet_two hl hs
  have fin : ∀ {q' : Addr} {vs : List V}, v = .ref q' → SqT X.K H q' vs → RepL p.K M H xs vs → wpAny (model X.prog X.w) X.A (assign (.Tuple es k pos) X.env u) (fun _ s' => ∃ σ' H', Inv X pins σ' H' s' ∧ Q σ' H') X.xe s := fun {q' vs} e hq rl => by
    subst e
    cases r
    obtain ⟨its, rv, ht, hz⟩ := I.tuple hq
    obtain ⟨x1, hot, _⟩ := hc.at_ I
    rw [assign_Tuple]
    refine wpAny_bind (wpAny_standAt (hot_unpack hot ht (by rw [h1, List.size_toArray, ← rv.length, ← rl.length]; exact hlx.symm) h2 fun h' hx => ?_))
    have I1 : Inv X pins σ H { s with heap := h' } := I.kept (t' := s.toks) fun b o e => hx b o (Nat.ne_of_lt (Heap.lt_size e)) e
    refine (hn.pgs hN).run pins _ σ H vs _ Q I1 (by simpa using rv) ?_
    exact gNames_of (by rw [← rl.length]; exact hlx) (q _ (he.setAll rl) (setAllV_wipe _ _ _))
  rcases hr with hr | ⟨_, q', xs', vs, e, e2, hq, rl⟩
  · unfold Rep at hr
    obtain ⟨q', vs, e, ht, rl⟩ := hr
    exact fin e ht.sq rl
  · cases e
    exact fin e2 (.inl hq) rl
end G
set_option maxHeartbeats 1000000
namespace G
open PySem PySem.Spec PyProof.Rows L2 HotX
variable {p : Pm} {X : Cx} {W : WX} {pos p2 pz : Pos} {tup : Bool} {a b : Expr} {ra rb : Ev}
/-- zip of two lists -/
def izipLR (r t : Ev) : EvI := fun ρ S => (r ρ S).bind fun x S1 => (t ρ S1).bind fun y S2 => match x, y with
    | .lst xs, .lst ys => .ok (⟨zipP xs ys, none⟩ : Wk) S2
    | _, _ => .bad
abbrev XB (X : Cx) (s : Shared) (H : Hp) (scope : Scope) (ce : PySem.Env) (fp : List Addr) (q : Addr × Obj) : Cx := (X.blk s H scope ce fp).tr [q] (fun _ _ => False)
/-- [elt for .. in zip(a, b) if c] while an exception is handled -/
theorem s_lcH {elt : Expr} {elts : List Expr} {kk : Nat} {tpos : Pos} {ifs : List Expr} {scope : Scope} {own : List (Str × Nat)} {rt re : Ev} {is : List Nat} (hot : HotX1 X) (hN : X.N.Nodup) (ok : BlkOk X.N X.env.scope scope own)
    (hgl : Gl X "zip") (hmg : X.mg "zip" = none) (hn : notStar a = true) (hn2 : notStar b = true) (ha : PE X a (tD p ra W)) (hb : PE X b (tD p rb W))
    (htg : ∀ s H C cl fp q, X.pn = [q] → PG (XB X s H scope (compEnvC scope cl C X.env) fp q) (.Tuple elts kk tpos) (tgD p true is))
    (ht : ∀ s H C cl fp q, X.pn = [q] → PTs (XB X s H scope (compEnvC scope cl C X.env) fp q) ifs (tDT p rt noW))
    (he : ∀ s H C cl fp q, X.pn = [q] → PE (XB X s H scope (compEnvC scope cl C X.env) fp q) elt (tD p re noW)) (sub : ∀ i ∈ is, i ∈ own.map (·.2)) :
    PE X (.ListComp elt [⟨.Tuple elts kk tpos, .Call (.Name "zip" p2) [a, b] [] pz, ifs, 0⟩] scope pos) (tD p (comR rt re is (izipLR ra rb) (own.map (·.2))) W) := by
  refine peOf fun pins s σ H ρ M S Q A q0 => ?_
  obtain ⟨qe, hq1, hq2, hq3⟩ := id hot
  have I := A.inv
  have hfree : ∀ y ∈ scope.names, y.2 = .free → ∃ c, X.env.cells.lookup y.1 = some c := fun y hy e => (ok.free y hy e).elim (fun k => I.ok.has _ (.inl k)) fun k => I.ok.has _ (.inr k)
  rw [eval_ListComp]
  refine wpAny_comprehension_free (use := none) rfl (fun _ => rfl) (closure_ok hfree) ok.kind (fun y hy e => by rw [ok.uniq y hy, e]) ?_
  show wpAny _ _ (eval (.Call (.Name "zip" p2) [a, b] [] pz) X.env) _ _ s
  refine Call_ (ld_blt I hgl hmg PyProof.Rows.boot_zip (PyProof.Rows.callWith_type1 ?_ (star_not hn _ _) (any_star (by simp [hn2]))))
  have q0' : Post p (Rep p.K) ((ra ρ S).bind fun x S1 => (rb ρ S1).bind fun y S2 => (match x, y with
    | .lst xs, .lst ys => R.ok (⟨zipP xs ys, none⟩ : Wk) S2
    | _, _ => .bad).bind fun w S1 => match lcGo rt re is (wipeE ρ (own.map fun q : Str × Nat => q.2)) w.g w.xs S1 with
    | .ok vs S2 => R.ok (PV.lst vs) S2
    | _ => .bad) M H Q (wAt W σ) := by
    unfold comR izipLR at q0
    simp only [G.bind_assoc] at q0
    exact q0
  rw [star_not hn, star_not hn2]
  show wpAny _ _ (spliced ((false, eval a X.env) :: (false, eval b X.env) :: [])) _ _ s
  refine Calls.spliced_cons (one (k := fun ρ x S1 => (rb ρ S1).bind fun y S2 => (match x, y with
    | .lst xs, .lst ys => R.ok (⟨zipP xs ys, none⟩ : Wk) S2
    | _, _ => .bad).bind fun w S1 => match lcGo rt re is (wipeE ρ (own.map fun q : Str × Nat => q.2)) w.g w.xs S1 with
    | .ok vs S2 => R.ok (PV.lst vs) S2
    | _ => .bad) ha A q0' fun u1 s1 x v1 M1 S1 H1 e1 A1 r1 rv1 q1 => ?_)
  refine Calls.spliced_cons (one (k := fun ρ y S2 => (match x, y with
    | .lst xs, .lst ys => R.ok (⟨zipP xs ys, none⟩ : Wk) S2
    | _, _ => .bad).bind fun w S1 => match lcGo rt re is (wipeE ρ (own.map fun q : Str × Nat => q.2)) w.g w.xs S1 with
    | .ok vs S2 => R.ok (PV.lst vs) S2
    | _ => .bad) hb A1 q1 fun u2 s2 y v2 M2 S2 H2 e2 A2 r2 rv2 q2 => ?_)
  refine Calls.spliced_nil ?_
  have r1 := r1.ext e2
  obtain ⟨xs, ys, rfl, rfl, q3⟩ : ∃ xs ys, x = .lst xs ∧ y = .lst ys ∧ Post p (Rep p.K) (match lcGo rt re is (wipeE ρ (own.map fun q : Str × Nat => q.2)) none (zipP xs ys) S2 with
    | .ok vs S2 => R.ok (PV.lst vs) S2
    | _ => .bad) M2 H2 Q (wAt W σ) := by
    cases x with
    | lst xs =>
      cases y with
      | lst ys => exact ⟨xs, ys, rfl, rfl, q2⟩
      | _ => exact (show False from q2).elim
    | _ => cases y <;> exact (show False from q2).elim
  unfold Rep at r1 r2
  obtain ⟨ax, vx, rfl, hx, rlx⟩ := r1
  obtain ⟨ay, vy, rfl, hy, rly⟩ := r2
  cases rv1
  cases rv2
  have I2 := A2.inv
  obtain ⟨ix, rx, px, zx⟩ := I2.list (hx.sq (K := X.K))
  obtain ⟨iy, ry, py, zy⟩ := I2.list (hy.sq (K := X.K))
  cases ego : lcGo rt re is (wipeE ρ (own.map fun q : Str × Nat => q.2)) none (zipP xs ys) S2 with
  | exc _ _ _ => rw [ego] at q3; exact q3.elim
  | bad => rw [ego] at q3; exact q3.elim
  | ok vs S3 =>
  rw [ego] at q3
  refine call_zip_2 px.isList py.isList fun m₁ z0 zI zO g1 g2 zs zk => wpAny_pyIter_zip z0 ?_
  generalize hfp : [s2.heap.objs.size + 4, s2.heap.objs.size + 2, s2.heap.objs.size + 3, s2.heap.objs.size, s2.heap.objs.size + 1] = fp
  have Dz := PySem.W.ktu_apart s2.heap.objs.size ax ay px.lt py.lt
  have I3 : Inv X pins σ H2 { s2 with heap := m₁ } := I2.kept (t' := s2.toks) zk
  have st3 : ZSt (s2.heap.objs.size + 4) (s2.heap.objs.size + 2) (s2.heap.objs.size + 3) s2.heap.objs.size (s2.heap.objs.size + 1) ax ay 0 m₁ := ⟨z0, zI, ⟨_, _, zO⟩, g1, g2⟩
  have fge : ∀ c ∈ fp, s2.heap.objs.size ≤ c := fun c hc => by
    rw [← hfp] at hc
    simp only [List.mem_cons, List.not_mem_nil, or_false] at hc
    rcases hc with rfl | rfl | rfl | rfl | rfl <;> first | exact Nat.le_add_right _ _ | exact Nat.le_refl _
  have f3 : ∀ c ∈ fp, FpOk X pins H2 c := fun c hc => I2.fpOk (fge c hc) (I2.hok.fresh (fge c hc))
  have flt : ∀ c ∈ fp, c < m₁.objs.size := fun c hc => by
    rw [← hfp] at hc
    obtain ⟨o, e, _⟩ := st3.obj c hc
    exact Heap.lt_size e
  refine wpAny_newObj_type (newEnv_comp ?_) (by show 0 ≤ sizeLine; decide)
  generalize hD : ({ s2 with heap := m₁ } : Shared).heap.objs.size = D
  have hDn : H2 D = none := I3.hok.fresh (Nat.le_of_eq hD)
  have kin := Kp.enter (o := HO.lst []) A2.ok hDn
  have hzl : (zipP xs ys).length ≤ sizeLine := by rw [zipP_len]; have := rlx.length; omega
  obtain ⟨Wl, ⟨m0, w0⟩, turn⟩ := loopC (Nx := fun H' => Q (.ref D) H') sub (CIn.start A2.ok hDn) ((A2.env.kp kin).wipe (own.map fun q : Str × Nat => q.2)) ((yl_zipL (K := X.K) hx rlx hy rly).kp kin) ego (by simpa using Nat.le_trans (lcGo_len ego) hzl) (fun M' H' k' c => c.fin q3)
  generalize hs4 : ({ s2 with heap := m₁.push { cls := .type "list", data := .seq ([] : List Value).toArray } } : Shared) = s4
  have h4 : s4.heap = m₁.push { cls := .type "list", data := .seq ([] : List Value).toArray } := by rw [← hs4]
  have I4 : Inv X pins σ (upd H2 D (.lst [])) s4 := by
    rw [← hs4]
    refine I3.laid (t' := s2.toks) (fun b o e => Heap.get?_push_of_some _ e) (Nat.le_of_eq hD) ⟨Nat.zero_le _, [], 0, .nil, ?_⟩
    rw [← hD]
    exact Heap.get?_push_size _ rfl
  have hDne : ∀ c ∈ fp, c ≠ D := fun c hc => by rw [← hD]; exact Nat.ne_of_lt (flt c hc)
  have f4 : ∀ c ∈ fp, FpOk X pins (upd H2 D (.lst [])) c ∧ c < s4.heap.objs.size := fun c hc =>
    ⟨⟨by rw [upd_ne (hDne c hc)]; exact (f3 c hc).1, (f3 c hc).2⟩, by rw [h4, Heap.size_push]; exact Nat.lt_succ_of_lt (flt c hc)⟩
  have I5 := block_start I4 ok hN f4
  have pg := htg s4 (upd H2 D (.lst [])) s4.heap.objs.size (cellsFrom (s4.heap.objs.size + 1) scope.names (cloFrom X.env.cells scope.names [])) fp qe hq3
  have pt := ht s4 (upd H2 D (.lst [])) s4.heap.objs.size (cellsFrom (s4.heap.objs.size + 1) scope.names (cloFrom X.env.cells scope.names [])) fp qe hq3
  have pe := he s4 (upd H2 D (.lst [])) s4.heap.objs.size (cellsFrom (s4.heap.objs.size + 1) scope.names (cloFrom X.env.cells scope.names [])) fp qe hq3
  show codeAny _ _ (.compStart (.ListComp elt [⟨.Tuple elts kk tpos, .Call (.Name "zip" p2) [a, b] [] pz, ifs, 0⟩] scope pos) 0 (.ref (s2.heap.objs.size + 4)) (.ref D) (compEnvC scope (cellsFrom (s4.heap.objs.size + 1) scope.names (cloFrom X.env.cells scope.names [])) s4.heap.objs.size X.env)) (compPost (model X.prog X.w) X.A X.xe none (EP X pins σ Q) (.ref D) s4.heap.objs.size) { s4 with heap := pushCells (s4.heap.push { cls := .type "dict", data := .dict #[] }) scope.names }
  generalize hce : compEnvC scope (cellsFrom (s4.heap.objs.size + 1) scope.names (cloFrom X.env.cells scope.names [])) s4.heap.objs.size X.env = ce at I5 pg pt pe ⊢
  have cL : ce.locals = s4.heap.objs.size := by subst hce; rfl
  have nfp : ∀ c ∈ fp, (upd H2 D (.lst [])) c = none := fun c hc => (f4 c hc).1.1
  generalize hH4 : upd H2 D (.lst []) = H4 at I4 I5 pg pt pe w0 nfp f4
  generalize hs5 : ({ s4 with heap := pushCells (s4.heap.push { cls := .type "dict", data := .dict #[] }) scope.names } : Shared) = s5 at I5 ⊢
  have kp5 : ∀ c o, s4.heap.get? c = some o → s5.heap.get? c = some o := fun c o e => by rw [← hs5]; exact pushCells_keeps _ _ _ _ (Heap.get?_push_of_some _ e)
  have st5 : ZSt (s2.heap.objs.size + 4) (s2.heap.objs.size + 2) (s2.heap.objs.size + 3) s2.heap.objs.size (s2.heap.objs.size + 1) ax ay 0 s5.heap := st3.keep fun c _ o e => kp5 c o (by rw [h4]; exact Heap.get?_push_of_some _ e)
  have P4 := I4.pin qe (by rw [hq3]; simp)
  have qlt : qe.1 < s4.heap.objs.size := Heap.lt_size P4.1
  have I6 : Inv (XB X s4 H4 scope ce fp qe) [] (wipe σ (own.map fun q : Str × Nat => q.2)) H4 s5 := (I5.pins_of (pins' := [qe]) fun r hr => by
    rw [List.mem_singleton.mp hr]
    exact ⟨kp5 _ _ P4.1, P4.2.1, by show qe.1 ≠ ce.locals; rw [cL]; exact Nat.ne_of_lt qlt, fun hm => (List.mem_cons.mp (I4.stkSub qe.1 hm)).elim P4.2.2.1 P4.2.2.2.1, P4.2.2.2.2⟩).toTry (fun _ _ => False)
  have qfp : qe.1 ∉ fp := fun hm => by
    have P2 := I2.pin qe (by rw [hq3]; simp)
    exact absurd (Nat.lt_of_lt_of_le (Heap.lt_size P2.1) (fge _ hm)) (Nat.lt_irrefl _)
  have hotB : HotX1 (XB X s4 H4 scope ce fp qe) := ⟨qe, hq1, hq2, rfl⟩
  have stat : ∀ {σ' : L2.St} {H' : Hp} {s' : Shared}, Inv (XB X s4 H4 scope ce fp qe) [] σ' H' s' → (∀ c ∈ fp, H' c = none) → ∀ c ∈ fp, FpOk (XB X s4 H4 scope ce fp qe) [] H' c := fun {σ' H' s'} I' hn c hc =>
    ⟨hn c hc, (I'.ok.exf c hc).1, I'.ok.exfs c hc, .inl hc, fun x cc e => (I'.ok.exf c hc).2 x cc e, fun r hr => by
      have : r ∈ [qe] ++ ([] : List (Addr × Obj)) := hr
      rw [List.append_nil] at this
      rw [List.mem_singleton.mp this]
      exact fun z => qfp (z ▸ hc)⟩
  have loop : codeAny (model X.prog X.w) X.A (.compLoop (.ListComp elt [⟨.Tuple elts kk tpos, .Call (.Name "zip" p2) [a, b] [] pz, ifs, 0⟩] scope pos) 0 (.ref (s2.heap.objs.size + 4)) (.ref D) ce) (compPost (model X.prog X.w) X.A X.xe none (EP X pins σ Q) (.ref D) s4.heap.objs.size) s5 := by
    refine compLoop_any (fun n s' => ∃ i H', Inv (XB X s4 H4 scope ce fp qe) [] (wipe σ (own.map fun q : Str × Nat => q.2)) H' s' ∧ ZSt (s2.heap.objs.size + 4) (s2.heap.objs.size + 2) (s2.heap.objs.size + 3) s2.heap.objs.size (s2.heap.objs.size + 1) ax ay i s'.heap ∧ (∀ c ∈ fp, H' c = none) ∧ Wl i n H') ?_ m0 ⟨0, H4, I6, st5, nfp, w0⟩
    rintro n s6 ⟨i, H6, I6, st6, n6, w6⟩
    obtain ⟨x1, hotA, q', hq', hx1⟩ := hotB.at_ I6
    have hq' : [qe] = [q'] := hq'
    have hqq : q' = qe := (List.cons.inj hq').1.symm
    subst hqq
    subst hx1
    have fpl : ∀ c ∈ [s2.heap.objs.size + 4, s2.heap.objs.size + 2, s2.heap.objs.size + 3, s2.heap.objs.size, s2.heap.objs.size + 1], FpOk (XB X s4 H4 scope ce fp q') [] H6 c := fun c hc => stat I6 n6 c (hfp ▸ hc)
    rcases turn i n H6 w6 with ⟨stop, qq⟩ | ⟨go, Nx, hNx, step⟩
    · refine thn (zip_done (X := XB X s4 H4 scope ce fp q') hotA (by rw [hfp]; exact qfp) Dz I6 fpl st6 stop) fun r s7 ⟨hr, I7⟩ => ?_
      subst hr
      have I8 : Inv X pins σ H6 s7 := I4.call' (ch := fp) I7.os I7.base I7.hok I7.bare fun c hc => ⟨(f4 c hc).1.2.2.2.1, (f4 c hc).1.2.1, (f4 c hc).1.2.2.2.2.1, (f4 c hc).1.2.2.2.2.2⟩
      have nC : H6 s4.heap.objs.size = none := by
        have e : H6 ce.locals = none := I7.free
        rw [cL] at e
        exact e
      obtain ⟨m, hm, _⟩ := I7.loc
      have hm : s7.heap.Ns ce.locals m := hm
      rw [cL] at hm
      obtain ⟨k0, k1, k2, k3, k4, k5⟩ := I4.fpOk (H' := H6) (Nat.le_refl _) nC
      exact ⟨m, hm, fun h'' sb => ⟨.ref D, H6, I8.turned (t' := s7.toks) (fun c o hc e => (sb.2 c hc).trans e) k0 k1 k3 k4 k5, rfl, qq⟩⟩
    · refine thn (zip_item (elts := elts) (kk := kk) (tpos := tpos) (X := XB X s4 H4 scope ce fp q') Dz I6 fpl st6 go) fun r s7 ⟨u, hr, h7⟩ => ?_
      subst hr
      refine thn h7 fun _ s8 ⟨x, H8, I8, r8, y8, st8, n8⟩ => ?_
      have n8' : ∀ c ∈ fp, H8 c = none := fun c hc => n8 c (hfp ▸ hc)
      have I8' := I8.pinned (stat I8 n8') fun c hc => st8.obj c (hfp ▸ hc)
      refine thnF (pg.run _ s8 _ H8 x u _ I8' r8 (step x H8 y8)) fun _ s9 ⟨σ9, H9, I9, hw9, q9⟩ => ?_
      refine thnF (pt.run _ s9 σ9 H9 _ I9 q9) fun bb s10 ⟨H10, I10, q10⟩ => ?_
      have fin : ∀ {s' : Shared} {H' : Hp}, Inv (XB X s4 H4 scope ce fp q') ([] ++ pinsAt fp s8.heap) σ9 H' s' → Nx H' → ∃ m, m < n ∧ ∃ i H', Inv (XB X s4 H4 scope ce fp q') [] (wipe σ (own.map fun q : Str × Nat => q.2)) H' s' ∧ ZSt (s2.heap.objs.size + 4) (s2.heap.objs.size + 2) (s2.heap.objs.size + 3) s2.heap.objs.size (s2.heap.objs.size + 1) ax ay i s'.heap ∧ (∀ c ∈ fp, H' c = none) ∧ Wl i m H' := fun {s' H'} I' nx => by
        obtain ⟨m', hm, w'⟩ := hNx H' nx
        have pin' : ∀ c ∈ fp, ∀ o, s8.heap.get? c = some o → s'.heap.get? c = some o ∧ H' c = none := fun c hc o e =>
          let y := I'.pin (c, o) (List.mem_append_right _ (List.mem_append_right _ (mem_pinsAt hc e)))
          ⟨y.1, y.2.1⟩
        have hl : (wipe σ (own.map fun q : Str × Nat => q.2)).length = σ9.length := by rw [← hw9, wipe_length]
        refine ⟨m', hm, i + 1, H', (I'.unpinned (pins := [])).weak hl (fun j v e => by rw [← hw9] at e; exact (wipe_some e).1), st8.keep fun c hc o e => (pin' c (hfp ▸ hc) o e).1, fun c hc => ?_, w'⟩
        obtain ⟨o, e, _⟩ := st8.obj c (hfp ▸ hc)
        exact (pin' c hc o e).2
      cases bb with
      | false =>
        simp only [Bool.false_eq_true, if_false] at q10 ⊢
        exact fin I10 q10
      | true =>
        simp only [if_true] at q10 ⊢
        refine thnF (pe.run _ s10 σ9 H10 _ I10 q10) fun z11 s11 ⟨yv, H11, I11, r11, acc, hD11, hz11, nx⟩ => ?_
        exact app_ok (X := XB X s4 H4 scope ce fp q') I11 hD11 hz11 r11 fun s12 I12 => fin I12 nx
  exact codeAny_compStart_list loop (wpAny_pyIter_zip st5.1 loop)
end G
set_option maxHeartbeats 1000000
namespace G
open PySem PySem.Spec PyProof.Rows L2 HotX L2H
variable {p : Pm} {X : Cx} {W : WX} {pos p2 p3 p4 : Pos} {a b : Expr} {ra rb : Ev}
/-- e is the object at q.1, an instance of D -/
structure ExAt (X : Cx) (q : Addr × Obj) (D : Addr) : Prop where
  pn : X.pn = [q]
  cls : Zc (.ref D) none q.2
  dat : ∃ vs, q.2.data = .fields vs
  C : ExcC X.K D
theorem isx_call {q : Addr × Obj} {D : Addr} (x : ExAt X q D) {pins : List (Addr × Obj)} {σ : L2.St} {H : Hp} {s : Shared} {Q : Value → Shared → Prop} {cv : Value} {b : Bool} (I : Inv X pins σ H s) (e : PySem.W.kitOne X.K (.ref D) cv = some b) (h : ∀ tk, Q (.bool b) { s with toks := tk }) {E : Value → Shared → Prop} :
    wpAny (model X.prog X.w) X.A (call (.builtin "isinstance") [.ref q.1, cv]) Q E s := by
  obtain ⟨hget, _⟩ := I.pin q (by rw [x.pn]; simp)
  obtain ⟨vs, hv⟩ := x.dat
  have J : PySem.W.InstAt s.heap q.1 q.2 D none := by
    obtain ⟨qa, oc, od, oda, osl⟩ := q
    obtain ⟨h1, h2⟩ := x.cls
    dsimp only at h1 h2 hv
    subst h1 h2 hv
    exact ⟨hget, rfl, rfl, trivial⟩
  exact PySem.W.kia_one (PySem.W.handS_kitx_exc x.C.hg x.C.hk x.C.hs x.C.hd x.C.ha x.C.hn x.C.ht x.C.hm) I.kIn J e (fun z => nomatch z) h
/-- the error stands in slot 0 -/
def isx1 (ad : Nat) (b : Bool) : Ev := fun ρ S => match ρ[0]? with
  | some (some (PV.exn a')) => if a' = ad then .ok (.bl b) S else R.bad
  | _ => R.bad
def isxR (ad : Nat) (bs : List Bool) : Env → Store → R (List PV) := fun ρ S => match ρ[0]? with
  | some (some (PV.exn a')) => if a' = ad then .ok (bs.map .bl) S else R.bad
  | _ => R.bad
/-- a class as a value: an own one, a built-in one -/
def ClsV (X : Cx) (y : Str) (cv : Value) : Prop := Gl X y ∧ (y == ("__debug__" : Str)) = false ∧ (X.mg y = some cv ∨ (X.mg y = none ∧ bootBuiltins y = some cv ∧ y ≠ "__name__"))
theorem s_isx {q : Addr × Obj} {D : Addr} {e y : Str} {cv : Value} {b : Bool} (x : ExAt X q D) (hg : Gl X "isinstance") (hm : X.mg "isinstance" = none) (hN : X.N[0]? = some e) (hv : Vis X.env.scope e) (hd : (e == ("__debug__" : Str)) = false) (hcd : (e == ("__classdict__" : Str)) = false) (hy : ClsV X y cv) (hk : PySem.W.kitOne X.K (.ref D) cv = some b) :
    PE X (.Call (.Name "isinstance" p4) [.Name e p2, .Name y p3] [] pos) (tD p (isx1 q.1 b) W) := by
  refine peOf fun pins s σ H ρ M S Q A z => ?_
  unfold isx1 at z
  cases e0 : ρ[0]? with
  | none => rw [e0] at z; exact z.elim
  | some o =>
    rw [e0] at z
    cases o with
    | none => exact z.elim
    | some v =>
      cases v with
      | exn a' =>
        by_cases ha : a' = q.1
        · simp only [if_pos ha] at z
          subst ha
          obtain ⟨w, e1, r⟩ := A.env.2 0 _ e0
          unfold Rep at r
          subst r
          refine Call_ (ld_blt A.inv hg hm boot_isinstance ?_ (by decide) (by decide))
          refine Calls.callWith_builtin rfl (Calls.evalArgs_plain ?_)
          show wpAny _ _ (spliced ((false, eval (.Name e p2) X.env) :: (false, eval (.Name y p3) X.env) :: [])) _ _ s
          refine Calls.spliced_cons (thn ((pe_var (pos := p2) hN hv hd hcd).run pins s σ H (fun v H1 => v = .ref q.1 ∧ H1 = H) A.inv ⟨.ref q.1, e1, rfl, rfl⟩) fun u s1 ⟨v, H1, I1, r1, ev, eH⟩ => ?_)
          subst ev
          subst eH
          cases r1
          have fin : wpAny (model X.prog X.w) X.A (call (.builtin "isinstance") [.ref q.1, cv]) (EP X pins σ Q) X.xe s1 := isx_call x I1 hk fun tk => ⟨.bl b, H1, I1.kept (t' := tk) fun _ _ z => z, rfl, z.done A.ok rep_bl⟩
          obtain ⟨g, gd, hc⟩ := hy
          rcases hc with hc | ⟨hc1, hc2, hc3⟩
          · exact Calls.spliced_cons (ld_glob I1 g hc (Calls.spliced_nil fin) gd)
          · exact Calls.spliced_cons (ld_blt I1 g hc1 hc2 (Calls.spliced_nil fin) hc3 gd)
        · simp only [if_neg ha] at z
          exact z.elim
      | _ => exact z.elim
theorem isxR_cons (ad : Nat) (b : Bool) (bs : List Bool) : isxR ad (b :: bs) = consR (isx1 ad b) (isxR ad bs) := by
  funext ρ S
  unfold isxR consR isx1
  cases e0 : ρ[0]? with
  | none => rfl
  | some o =>
    cases o with
    | none => rfl
    | some v =>
      cases v with
      | exn a' =>
        by_cases ha : a' = ad
        · simp only [if_pos ha]; rw [e0]; simp only [if_pos ha]; rfl
        · simp only [if_neg ha]; rfl
      | _ => rfl
theorem isxR_nil (ad : Nat) {pins : List (Addr × Obj)} : PA X [] (tDA p (isxR ad []) W) := paOf fun pos pins s σ H ρ M S Q A z => by
  unfold isxR at z
  cases e0 : ρ[0]? with
  | none => rw [e0] at z; exact z.elim
  | some o =>
    rw [e0] at z
    cases o with
    | none => exact z.elim
    | some v =>
      cases v with
      | exn a' =>
        by_cases ha : a' = ad
        · simp only [if_pos ha] at z
          exact Calls.spliced_nil ⟨[], H, A.inv, .nil, z.done A.ok .nil⟩
        · simp only [if_neg ha] at z; exact z.elim
      | _ => exact z.elim
theorem run_hot {CXx : CXT} {P : Program} {w : World} {K : PySem.W.Frag} {mg : Str → Option Value} {base : Heap} {k : Nat} {f : Addr} {name qual : Str} {params : Arguments} {body : List Stmt} {scope : Scope} {dV kV doc pm cdv ct oc : Value} {an od : Option Addr} {osl : Array (Option Value)} {N ps : List Str}
    (lk : K.lookup f = some ⟨oc, od, .func (PySem.W.fnOf name qual params body scope dV kV doc pm an cdv ct), osl⟩) (hcd : PySem.W.codeIn K cdv qual = true) (S : FnScope N ps scope) {A : Around} {outer : List PySem.Env} {s : Shared} {H : Hp} {args : Args} {us : List Value} {vs : List V} {Q : VK} {E : XK} {q : Addr × Obj}
    (hr : RoomH (k + 1) A) (hpin : PinOk outer H s q) (e0 : Env0 P w K mg base A outer s H) (hb : BindsTo s (PySem.W.fnOf name qual params body scope dV kV doc pm an cdv ct) args (ps.zip us)) (r : Vals vs us) (hl : vs.length = ps.length)
    (hbody : ∃ t, PSs (cxH CXx P w K mg base N qual scope f cdv A outer s H E q) body t ∧ t { nx := fun _ H' => Q .non H', rt := Q } (L2.start N vs) H) : codeAny (model P w) A (.call (.ref f) args) (CR CXx outer P w H s Q E) s := by
  have inK : K.In s.heap := e0.mod.kin.keeps fun b o e => (e0.bs b o e).1
  have kinds : ∀ y ∈ ps.zip us, scope.names.lookup y.1 = some .local ∨ (scope.names.lookup y.1 = some .cell ∧ ((cellsFrom (s.heap.objs.size + 1) scope.names []).lookup y.1).isSome = true) := fun ⟨n, v⟩ hy =>
    (S.par n (List.of_mem_zip hy).1).imp id fun z => ⟨z, PySem.W.cellsFrom_some _ _ _ (.inl z)⟩
  refine codeAny_call_function hr.depth (inK _ _ lk) rfl S.co S.gen rfl (PySem.W.codeRec_of inK hcd) (hb _ _ _ _ (wpAny_newFunctionEnv_cells S.kind kinds fun env he s1 x => ?_))
  subst he
  refine ⟨(e0.mod.nolimit.keeps fun b o e => (e0.bs b o e).1).keeps x.toInCall.keep, codeAny_func ?_⟩
  obtain ⟨t, ht, hq⟩ := hbody
  have J0 := inv_startH (CX := CXx) (cd := cdv) (E := E) S hpin e0 hl r x
  refine wpAny_mono (ht.run [] s1 (L2.start N vs) H _ J0 hq) (fun fl s' hs => ?_) fun e s' hs => hs
  cases fl with
  | ret u => obtain ⟨v, σ', H', J, rv, z⟩ := hs; exact ⟨v, H', J.os, J.bare, J.base, J.hok, rv, z⟩
  | next => obtain ⟨σ', H', J, z⟩ := hs; exact ⟨.non, H', J.os, J.bare, J.base, J.hok, rfl, z⟩
  | brk => obtain ⟨_, _, _, z⟩ := hs; exact z.elim
  | cont => obtain ⟨_, _, _, z⟩ := hs; exact z.elim
end G
set_option maxHeartbeats 1000000
namespace G
open PySem PySem.Spec PyProof.Rows L2 HotX L2H
structure NmD where
  cls : List Str
  i1 : Nat
  i2 : Nat
  labels : List Nat
  sep : List Nat
  sep2 : List Nat
  is : List Nat
  iw : Nat
  ig : Nat
  own : List Nat
def clsE (sc : Scope) (e0 : Str) : Expr → Option Str
  | .Call (.Name f _) [.Name e _, .Name y _] [] _ => if f = ("isinstance" : Str) ∧ e = e0 ∧ isGl sc f = true ∧ isGl sc y = true then some y else none
  | _ => none
/-- slot of a name that is read -/
def rdOf (sc : Scope) (N : List Str) (x : Str) : Option Nat := if isGl sc x then none else varOf sc N x
def nmBody (sc : Scope) (N : List Str) (e0 : Str) : List Stmt → Option NmD
  | [.Assign [.Name x1 _] (.List es _) _, .Assign [.Name x2 _] (.Constant (.str lab) _ _) _, .Return (some (.Call (.Attribute (.Constant (.str sp) _ _) jn apos)
      [.ListComp (.Name w1 _) [⟨.Tuple [.Name w2 q2, .Name g2 q3] kk tp, .Call (.Name zn _) [.Call (.Attribute (.Name x3 _) sn ap2) [.Constant (.str sp2) _ _] [] cp2, .Name x4 _] [] _, [.Name g3 _], 0⟩] scope _] [] cpos)) _] => do
    let cls ← es.mapM (clsE sc e0)
    let i1 ← locOf sc N x1
    let i2 ← locOf sc N x2
    let j2 ← varOf sc N x3
    let j1 ← varOf sc N x4
    let is ← tgOf scope N (.Tuple [.Name w2 q2, .Name g2 q3] kk tp)
    let iw ← varOf (relS scope sc) N w1
    let ig ← varOf (relS scope sc) N g3
    if (jn = ("join" : Str) ∧ sn = ("split" : Str) ∧ zn = ("zip" : Str) ∧ isGl sc zn = true ∧ (apos.endLine == cpos.line) = true ∧ (ap2.endLine == cp2.line) = true ∧ j1 = i1 ∧ j2 = i2 ∧ varOf sc N e0 = some 0) ∧
        okS lab.cps.toList = true ∧ okS sp.cps.toList = true ∧ okS sp2.cps.toList = true ∧ blkC N sc scope (ownOf N scope) = true ∧ es.length ≤ 1000 then
      some ⟨cls, i1, i2, lab.cps.toList, sp.cps.toList, sp2.cps.toList, is, iw, ig, (ownOf N scope).map (·.2)⟩
    else none
  | _ => none
def varR (i : Nat) : Ev := fun ρ S => match ρ[i]? with | some (some v) => .ok v S | _ => .bad
def strR (z : List Nat) : Ev := fun _ S => .ok (.str z) S
def nilR : Env → Store → R (List PV) := fun _ S => .ok [] S
def nmR (ad : Nat) (bs : List Bool) (d : NmD) : EvS :=
  seqR (asgR d.i1 (lstR (isxR ad bs))) (seqR (asgR d.i2 (strR d.labels)) (seqR (retR (mthR .join (strR d.sep) (consR (comR (varR d.ig) (varR d.iw) d.is (izipLR (mthR .split (varR d.i2) (consR (strR d.sep2) nilR)) (varR d.i1)) d.own) nilR))) nopR))
variable {p : Pm} {X : Cx} {sc : Scope} {N : List Str} {q : Addr × Obj} {D : Addr}
theorem tgOf_any {scope : Scope} {tg : Expr} {is : List Nat} (h : tgOf scope N tg = some is) : True ∧ True ∧ is.Nodup ∧ (∃ xs, tgNames tg = some xs ∧ xs.mapM (locOf scope N) = some is) ∧ (isTupE tg = true → 2 ≤ is.length) := by
  unfold tgOf at h
  simp only [Option.bind_eq_bind, Option.bind_eq_some_iff] at h
  obtain ⟨xs, h1, js, h2, h3⟩ := h
  split at h3
  · rename_i hh
    cases h3
    exact ⟨trivial, trivial, hh.1, ⟨xs, h1, h2⟩, hh.2⟩
  · cases h3
theorem cls_pa (x : ExAt X q D) (hg : Gl X "isinstance") (hm : X.mg "isinstance" = none) {e0 : Str} (hN : X.N[0]? = some e0) (hv : Vis X.env.scope e0) (hd : (e0 == ("__debug__" : Str)) = false) (hcd : (e0 == ("__classdict__" : Str)) = false) {W : WX} (hs : X.env.scope = sc) :
    ∀ {es : List Expr} {cls : List Str} {bs : List Bool}, es.mapM (clsE sc e0) = some cls → bs.length = cls.length → (∀ (j : Nat) y b, cls[j]? = some y → bs[j]? = some b → ∃ cv, (X.mg y = some cv ∨ (X.mg y = none ∧ bootBuiltins y = some cv)) ∧ PySem.W.kitOne X.K (.ref D) cv = some b) →
      PA X es (tDA p (isxR q.1 bs) W)
  | [], cls, bs, h, hl, _ => by
    simp at h
    subst h
    obtain rfl : bs = [] := List.length_eq_zero_iff.mp hl
    exact isxR_nil q.1 (pins := [])
  | e :: es, cls, bs, h, hl, hb => by
    rw [List.mapM_cons] at h
    simp only [Option.bind_eq_bind, Option.bind_eq_some_iff] at h
    obtain ⟨y, h1, ys, h2, h3⟩ := h
    cases h3
    cases bs with
    | nil => cases hl
    | cons b bs =>
      have ih := cls_pa (W := W) x hg hm hN hv hd hcd hs h2 (Nat.succ.inj hl) fun j z c e1 e2 => hb (j + 1) z c (by simpa using e1) (by simpa using e2)
      unfold clsE at h1
      split at h1
      · split at h1
        · rename_i hh
          obtain ⟨rfl, rfl, g1, g2⟩ := hh
          cases h1
          obtain ⟨cv, c1, c2⟩ := hb 0 y b rfl rfl
          obtain ⟨k1, k2, k3⟩ := isGl_of (X := X) g2 hs
          rw [isxR_cons]
          exact s_cons rfl (s_isx x hg hm hN hv hd hcd ⟨k1, k3, c1.imp id fun z => ⟨z.1, z.2, k2⟩⟩ c2) ih
        · cases h1
      · cases h1
theorem nm_ok (hot : HotX1 X) (x : ExAt X q D) (hK : X.K = p.K) (nd : X.N.Nodup) (hN : X.N = N) (hs : X.env.scope = sc) (hf : ∀ y, X.fn y = true) (m1 : X.mg "isinstance" = none) (m2 : X.mg "zip" = none) (gi : Gl X "isinstance") {e0 : Str} (hN0 : X.N[0]? = some e0) {body : List Stmt} {d : NmD} {bs : List Bool} (h : nmBody sc N e0 body = some d)
    (hl : bs.length = d.cls.length) (hb : ∀ (j : Nat) y b, d.cls[j]? = some y → bs[j]? = some b → ∃ cv, (X.mg y = some cv ∨ (X.mg y = none ∧ bootBuiltins y = some cv)) ∧ PySem.W.kitOne X.K (.ref D) cv = some b) : PSs X body (tS p (nmR q.1 bs d) noW) := by
  unfold nmBody at h
  split at h
  · rename_i x1 q1 es q2 q3 x2 q4 lab k5 q5 q6 sp k7 q7 jn apos w1 q8 w2 q9 g2 q10 kk tp zn q11 x3 q12 sn ap2 sp2 k13 q13 cp2 x4 q14 q15 g3 q16 scope q17 cpos q18
    simp only [Option.bind_eq_bind, Option.bind_eq_some_iff] at h
    obtain ⟨cls, h1, i1, h2, i2, h3, j2, h4, j1, h5, is, h6, iw, h7, ig, h8, h9⟩ := h
    split at h9
    · rename_i hh
      obtain ⟨⟨rfl, rfl, rfl, c4, c5, c6, rfl, rfl, c9⟩, c10, c11, c12, c13, c14⟩ := hh
      cases h9
      have loc : ∀ y, sc.names.lookup y = some .local ∨ sc.names.lookup y = some .cell → Loc X.env.scope y ∧ (X.fn y = true ∨ X.env.scope.names.lookup y = some .local) := fun y hy => by
        rw [hs]; exact ⟨hy, .inl (hf y)⟩
      obtain ⟨f1, f2⟩ := locOf_of h2
      obtain ⟨f3, f4⟩ := locOf_of h3
      obtain ⟨v1, v2, v3, v4⟩ := varOf_of (X := X) c9 hs hN
      obtain ⟨a1, a2, a3, a4⟩ := varOf_of (X := X) h4 hs hN
      obtain ⟨b1, b2, b3, b4⟩ := varOf_of (X := X) h5 hs hN
      obtain ⟨gz, _, _⟩ := isGl_of (X := X) c4 hs
      have eN : ∀ {i : Nat} {y : Str}, N[i]? = some y → X.N[i]? = some y := fun {i y} e => by rw [hN]; exact e
      have he0 : e0 = e0 := rfl
      have P1 : PS X (.Assign [.Name x1 q1] (.List es q2) q3) (tS p (asgR j1 (lstR (isxR q.1 bs))) noW) :=
        s_asg nd (eN f1) (loc _ f2).1 (loc _ f2).2 (s_lst (cls_pa x gi m1 v1 v2 v3 v4 hs h1 hl hb)) rfl
      have P2 : PS X (.Assign [.Name x2 q4] (.Constant (.str lab) k5 q5) q6) (tS p (asgR j2 (strR lab.cps.toList)) noW) := s_asg nd (eN f3) (loc _ f4).1 (loc _ f4).2 (s_str c10) rfl
      have ok : BlkOk X.N X.env.scope scope (ownOf N scope) := by rw [hN, hs]; exact blkOk_by c13
      have eSplit : PE X (.Call (.Attribute (.Name x3 q12) "split" ap2) [.Constant (.str sp2) k13 q13] [] cp2) (tD p (mthR .split (varR j2) (consR (strR sp2.cps.toList) nilR)) noW) :=
        s_mth mp_split (s_var a1 a2 a3 a4) (s_cons rfl (s_str c12) s_nil) rfl rfl (by show 1 < 30; decide) c6
      have eC : PE X (.ListComp (.Name w1 q8) [⟨.Tuple [.Name w2 q9, .Name g2 q10] kk tp, .Call (.Name "zip" q11) [.Call (.Attribute (.Name x3 q12) "split" ap2) [.Constant (.str sp2) k13 q13] [] cp2, .Name x4 q14] [] q15, [.Name g3 q16], 0⟩] scope q17)
          (tD p (comR (varR ig) (varR iw) is (izipLR (mthR .split (varR j2) (consR (strR sp2.cps.toList) nilR)) (varR j1)) ((ownOf N scope).map (·.2))) noW) := by
        obtain ⟨_, t1, t2, ⟨ys, t3, t4⟩, t5⟩ := tgOf_any h6
        refine s_lcH hot nd ok gz m2 rfl rfl eSplit (s_var b1 b2 b3 b4) (fun s H C cl fp q' hq => ?_) (fun s H C cl fp q' hq => ?_) (fun s H C cl fp q' hq => ?_) (own_mem t4)
        · obtain ⟨qq, hq1, hq2, hq3⟩ := hot
          obtain ⟨ps, e1, e2⟩ := tgNames_some t3
          rw [e1]
          refine s_tgH ⟨qq, hq1, hq2, ?_⟩ nd (namesAt_of (X := XB X s H scope (compEnvC scope cl C X.env) fp q') hN (fun y hy => blk_loc (X := X) (s := s) (H := H) (cl := cl) (D := C) (fp := fp) y hy) e2 t4) (t5 rfl)
          show [q'] = [qq]
          rw [← hq3, hq]
        · obtain ⟨u1, u2, u3, u4⟩ := varOf_of (X := XB X s H scope (compEnvC scope cl C X.env) fp q') h8 (by rw [← hs]; rfl) hN
          exact pts_one (ptVal (s_var u1 u2 u3 u4) fun _ => rfl)
        · obtain ⟨u1, u2, u3, u4⟩ := varOf_of (X := XB X s H scope (compEnvC scope cl C X.env) fp q') h7 (by rw [← hs]; rfl) hN
          exact s_var u1 u2 u3 u4
      have P3 : PS X (.Return (some (.Call (.Attribute (.Constant (.str sp) k7 q7) "join" apos) [.ListComp (.Name w1 q8) [⟨.Tuple [.Name w2 q9, .Name g2 q10] kk tp, .Call (.Name "zip" q11) [.Call (.Attribute (.Name x3 q12) "split" ap2) [.Constant (.str sp2) k13 q13] [] cp2, .Name x4 q14] [] q15, [.Name g3 q16], 0⟩] scope q17] [] cpos)) q18)
          (tS p (retR (mthR .join (strR sp.cps.toList) (consR (comR (varR ig) (varR iw) is (izipLR (mthR .split (varR j2) (consR (strR sp2.cps.toList) nilR)) (varR j1)) ((ownOf N scope).map (·.2))) nilR))) noW) :=
        s_ret (s_mth (mp_join hK) (s_str c11) (s_cons rfl eC s_nil) rfl rfl (by show 1 < 30; decide) c5)
      exact s_seq P1 (s_seq P2 (s_seq P3 s_nop))
    · cases h9
  · cases h
end G
set_option maxHeartbeats 1000000
namespace G
open PySem PySem.Spec PyProof.Rows L2 HotX L2H LamX
variable {p : Pm} {X : Cx} {pins : List (Addr × Obj)} {σ : L2.St} {H : Hp} {s : Shared}
abbrev lamN (X : Cx) (A : Around) (outer : List PySem.Env) (s : Shared) (H : Hp) (E : XK) (scope : Scope) (f c' : Addr) : Cx :=
  (LamX.lamCx X A outer s H E scope f c').wish fun e s' => wpAny (model X.prog X.w) (A.deeper (LamX.lamEnv X scope s.heap.objs.size f c')) (leaving (LamX.lamEnv X scope s.heap.objs.size f c') e) (fun _ t => L2N.CX X.prog X.w outer H s E e t) (fun e' t => L2N.CX X.prog X.w outer H s E e' t) s'
/-- a(), a the lambda that a def got -/
theorem lam_act {CXg : CXT} {Eg : XK} {Ng : List Str} {qg : Str} {sg : Scope} {g f c' : Addr} {cdg pm ctv : Value} {params : Arguments} {body : Expr} {scope : Scope} {k i : Nat} {a : Str} {pn : List (Addr × Obj)} {xe : Value → Shared → Prop} {W : WX} {E : XK} {tb : TE} {p1 p2 : Pos}
    (I : Inv X pins σ H s) (LS : LamX.LamS X.env.scope scope) (hf : s.heap.get? f = some (PySem.W.kla_obj "<lambda>" (X.env.qual ++ "<lambda>") params body scope (cloFrom X.env.cells scope.names []) pm c' ctv)) (hfn : H f = none) (hfr : f ∉ frs X.stack)
    (hbind : bindArgs (PySem.W.kla_fn "<lambda>" (X.env.qual ++ "<lambda>") params body scope (cloFrom X.env.cells scope.names []) pm (.ref c') ctv) ⟨[], []⟩ = pure [])
    (tk : L2N.Takes ((cxOf CXg X.prog X.w X.K X.mg X.base Ng qg sg g cdg X.A X.stack s H Eg).tr pn xe) W) (hW : ∀ cls d σ' H', E cls d H' → W cls d σ' H') (hr : Room (k + 1) (X.A.deeper (envOfC qg sg s.heap.objs.size g cdg)))
    (hbody : ∀ (A : Around) (outer : List PySem.Env) (s : Shared) (H : Hp), Room k (A.deeper (LamX.lamEnv X scope s.heap.objs.size f c')) → PE (lamN X A outer s H E scope f c') body tb)
    (hN : Ng[i]? = some a) (hv : Vis sg a) (hd : (a == ("__debug__" : Str)) = false) (hcd : (a == ("__classdict__" : Str)) = false) :
    PE ((cxOf CXg X.prog X.w X.K X.mg X.base Ng qg sg g cdg X.A X.stack s H Eg).tr pn xe) (.Call (.Name a p1) [] [] p2) (fun σZ HZ Q => σZ[i]? = some (some (.ref f)) ∧ HZ c' = some (LamX.CodeO c' (X.env.qual ++ "<lambda>")) ∧ tb σ HZ Q) := by
  refine ⟨fun pz sZ σZ HZ Q IZ ⟨h1, h2, h3⟩ => ?_⟩
  refine wpAny_Call_Name_kw (thn ((pe_var (pos := p1) (i := i) hN hv hd hcd).run pz sZ σZ HZ (fun v H1 => v = .ref f ∧ H1 = HZ) IZ ⟨.ref f, h1, rfl, rfl⟩) fun u s1 ⟨v, H1, I1, r1, ev, eH⟩ => ?_)
  subst ev
  subst eH
  obtain rfl : u = Value.ref f := r1
  have fAt : s1.heap.get? f = some (PySem.W.kla_obj "<lambda>" (X.env.qual ++ "<lambda>") params body scope (cloFrom X.env.cells scope.names []) pm c' ctv) := I1.base.keep f _ hf hfn hfr (fun z => nomatch (show f ∈ ([] : List Addr) from z))
  refine PySem.W.callWith_F0 ⟨_, _, _, _, fAt⟩ ?_
  obtain ⟨⟨oc, vs, t, hoc, hdc, hvc⟩, _, _⟩ := I1.hok c' _ h2
  have run1 : codeAny (model X.prog X.w) (X.A.deeper (envOfC qg sg s.heap.objs.size g cdg)) (.call (.ref f) ⟨[], []⟩) (CR (L2N.CX X.prog X.w) (envOfC qg sg s.heap.objs.size g cdg :: X.stack) X.prog X.w H1 s1 Q E) s1 := by
    refine PySem.W.kla_callFunE hr.depth fAt rfl LS.co LS.gen rfl ⟨c', oc, vs, t, rfl, hoc, hdc, hvc⟩ ?_
    rw [hbind]
    refine wpAny_pure (wpAny_newFunctionEnv (fun y hy => (LS.own y hy).2) (fun y hy => absurd hy (by simp)) (fun m₁ hns hsb => ⟨I1.nolimit.fresh _ hsb, ?_⟩) LS.kind)
    show codeAny _ _ (.expr body (LamX.lamEnv X scope s1.heap.objs.size f c')) _ _
    have kp : ∀ b o, s1.heap.get? b = some o → m₁.get? b = some o := fun b o e => hsb.extBut b o (Nat.ne_of_lt (Heap.lt_size e)) (Heap.get?_push_of_some _ e)
    have J0 := LamX.lam_start2 (f := f) (c' := c') (E := E) (tk := s1.toks + ([] : List (Str × Value)).length) I LS I1.env0 hr.hd I1.base hns kp
    refine PySem.W.kla_codeExpr (wpAny_mono ((hbody _ _ s1 H1 (hr.deeper _)).run [] _ _ H1 Q (J0.wish _) h3) (fun v s' hq => ?_) fun e s' hq => hq)
    obtain ⟨w', H', J', rv, z⟩ := hq
    exact ⟨w', H', J'.os, J'.bare, J'.base, J'.hok, rv, z⟩
  refine wpAny_call (codeAny_mono run1 fun r s' hq => ?_)
  cases r with
  | error e => exact L2N.passes_call tk hW pz σZ H1 s1 e s' I1 hq
  | ok fl =>
    cases fl with
    | ret u => exact I1.after hq
    | next => exact False.elim hq
    | brk => exact False.elim hq
    | cont => exact False.elim hq
structure ErD where
  a : Str
  ae : Str
  en : Str
  nn : Str
  ie : Nat
  z : List Nat
def erBody (sg : Scope) (Ng : List Str) : List Stmt → Option ErD
  | [.Try [.Expr (.Call (.Name a _) [] [] _) _] [.ExceptHandler (some (.Name ae _)) (some en) [.Return (some (.Call (.Name nn _) [.Name en2 _] [] _)) _] _] [] [] _, .Return (some (.Constant (.str z) _ _)) _] => do
    let ia ← varOf sg Ng a
    let ie ← varOf sg Ng en
    if ia = 0 ∧ en = en2 ∧ isGl sg ae = true ∧ isGl sg nn = true ∧ sg.names.lookup en = some .local ∧ okS z.cps.toList = true ∧ ie ≠ 0 then some ⟨a, ae, en, nn, ie, z.cps.toList⟩ else none
  | _ => none
/-- what is known of the def that names an error's classes, of the classes -/
structure NmK (p : Pm) (mg : Str → Option Value) (nn ae : Str) : Prop where
  df : ∃ (fN : Addr) (fdN : FuncData) (ag : Arg) (body : List Stmt) (scN : Scope) (NN : List Str) (d : NmD), mg nn = some (.ref fN) ∧ FunD p.K nn nn ⟨[], [ag], none, [], [], none, []⟩ body scN [] [] fN fdN ∧ FnScope NN [ag.arg] scN ∧
    nmBody scN NN ag.arg body = some d ∧ isGl scN "isinstance" = true ∧ NN[0]? = some ag.arg ∧ ∀ c, c < 13 → ∃ bs : List Bool, bs.length = d.cls.length ∧ (∀ (j : Nat) (y : Str) (b : Bool), d.cls[j]? = some y → bs[j]? = some b → ∃ cv, (mg y = some cv ∨ (mg y = none ∧ bootBuiltins y = some cv)) ∧ PySem.W.kitOne p.K (.ref (p.XA c)) cv = some b) ∧
      ∀ ad S, nmR ad bs d (some (.exn ad) :: List.replicate (NN.length - 1) none) S = .rt (.str (excWord c)) S
  ex : ∀ c, c < 13 → ExcC p.K (p.XA c)
  ca : ∃ CA : Addr, mg ae = some (.ref CA) ∧ ∀ c, c < 13 → PySem.W.exmOne p.K (.ref (p.XA c)) (.ref CA) = some true
  b1 : mg "isinstance" = none
  b2 : mg "zip" = none
/-- an error of the program's, its words wanted -/
def exE (p : Pm) (Q : VK) : XK := fun cls d H' => ∃ c M S, c < 13 ∧ cls = .ref (p.XA c) ∧ d = none ∧ SOk p M S H' ∧ Post p (Rep p.K) (.ok (.str (excWord c)) S) M H' Q (fun _ _ _ => False)
theorem words_ok (c : Nat) (h : c < 13) : okS (excWord c) = true := by
  have : ∀ c : Fin 13, okS (excWord c.1) = true := by decide +kernel
  exact this ⟨c, h⟩
/-- _law_names(e), e the error that the suite holds -/
theorem pe_names {nn en ae : Str} {ie : Nat} {a : Addr} {oe : Obj} {cls : Value} {d : Option Addr} {pn : List (Addr × Obj)} {q1 q2 q3 : Pos} (NK : NmK p X.mg nn ae) (hK : X.K = p.K) (hr : Room 1 X.A) (hgl : X.env.scope.names.lookup nn = some .globalImplicit) (hdb : (nn == ("__debug__" : Str)) = false)
    (hN : X.N[ie]? = some en) (hv : Vis X.env.scope en) (hd : (en == ("__debug__" : Str)) = false) (hcd : (en == ("__classdict__" : Str)) = false) (hz : L2N.Zn cls d oe) (hdat : ∃ vs, oe.data = .fields vs) :
    PE (X.suite a ((a, oe) :: pn)) (.Call (.Name nn q1) [.Name en q2] [] q3) (fun σ H Q => (∃ σ' : L2.St, σ = σ'.set ie (some (.ref a))) ∧ exE p Q cls d H) := by
  refine ⟨fun pins s σ H Q I hh => ?_⟩
  obtain ⟨⟨σ1, hσ⟩, c, M, S, hc, hcl, hdn, ok, hQ⟩ := hh
  have h1 : σ[ie]? = some (some (V.ref a)) := by
    have hl : ie < σ1.length := by
      have e1 := I.len
      rw [hσ, List.length_set] at e1
      rw [e1]
      exact (List.getElem?_eq_some_iff.mp hN).1
    rw [hσ, List.getElem?_set_self hl]
  subst hcl
  subst hdn
  obtain ⟨fN, fdN, ag, body, scN, NN, dd, mN, F, S', hbd, hgi, hN0, hfl⟩ := NK.df
  obtain ⟨bs, hl, hb, hrun⟩ := hfl c hc
  have bN : Binds p.K fdN [ag.arg] [] := F.bindsN fun kV doc pm an cdv ct us hl => bind_plain (args := [ag]) (by simp) hl
  obtain ⟨oc, od, dV, kV, doc, pm, an, cdv, ct, osl, rfl, lk, hcdv, _, _⟩ := F.ex
  have P1 := I.pin (a, oe) (by simp)
  refine wpAny_Call_Name_kw (ld_glob I (show Gl (X.suite a ((a, oe) :: pn)) nn from hgl) mN ?_ hdb)
  refine PySem.W.callWith_K (h₀ := X.base) I.ok.mod.kin (by show PySem.W.keepIn X.K _ = true; rw [hK]; exact F.kp) ?_ (by rfl) (by rfl)
  show wpAny _ _ (spliced ((false, eval (.Name en q2) X.env) :: [])) _ _ s
  refine Calls.spliced_cons (thn ((pe_var (X := X.suite a ((a, oe) :: pn)) (pos := q2) hN hv hd hcd).run pins s σ H (fun v H1 => v = .ref a ∧ H1 = H) I ⟨.ref a, h1, rfl, rfl⟩) fun u s1 ⟨v, H1, I1, r1, ev, eH⟩ => ?_)
  subst ev
  subst eH
  obtain rfl : u = Value.ref a := r1
  refine Calls.spliced_nil ⟨I1.kIn, ?_⟩
  have P2 := I1.pin (a, oe) (by simp)
  have pin2 : PinOk X.stack H1 s1 (a, oe) := ⟨P2.1, P2.2.1, fun hm => (List.mem_cons.mp (I1.stkSub a hm)).elim P2.2.2.1 P2.2.2.2.1, P2.2.2.2.2⟩
  obtain ⟨vs0, hvs⟩ := hdat
  have rc : codeAny (model X.prog X.w) (X.A.mark (some (.ref a))) (.call (.ref fN) ⟨[.ref a], []⟩) (CR C8.CX0 X.stack X.prog X.w H1 s1 Q C8.E0) s1 := by
    refine run_hot (k := 0) (q := (a, oe)) (us := [.ref a]) (vs := [.ref a]) (ps := [ag.arg]) (K := X.K) (mg := X.mg) (base := X.base) (by rw [hK]; exact lk) (by rw [hK]; exact hcdv) S' ⟨hr.dp, hr.un⟩ pin2 I1.env0 (by rw [← List.append_nil [ag.arg]]; exact (hK ▸ bN : Binds X.K _ [ag.arg] []) s1 [.ref a] I1.kIn rfl) (.cons rfl .nil) rfl ?_
    have body_ok := nm_ok (p := p) (X := cxH C8.CX0 X.prog X.w X.K X.mg X.base NN nn scN fN cdv (X.A.mark (some (.ref a))) X.stack s1 H1 C8.E0 (a, oe)) (sc := scN) (N := NN) (q := (a, oe)) (D := p.XA c) (e0 := ag.arg) (bs := bs)
      ⟨(a, oe), rfl, ⟨vs0, hvs, hz.2.2 vs0 hvs⟩, rfl⟩ ⟨rfl, hz.zc, ⟨vs0, hvs⟩, by show ExcC X.K _; rw [hK]; exact NK.ex c hc⟩ hK S'.nd rfl rfl (fun _ => rfl) NK.b1 NK.b2 (isGl_of hgi rfl).1 hN0 hbd hl (fun j y b e1 e2 => by
        obtain ⟨cv, k1, k2⟩ := hb j y b e1 e2
        exact ⟨cv, k1, by show PySem.W.kitOne X.K _ _ = _; rw [hK]; exact k2⟩)
    refine ⟨_, body_ok, some (.exn a) :: List.replicate (NN.length - 1) none, M, S, ?_, ok, ?_⟩
    · exact start_env (pvs := [.exn a]) (vs := [.ref a]) (.cons (by unfold Rep; rfl) .nil) (by
        have := (List.getElem?_eq_some_iff.mp hN0).1
        show 1 ≤ NN.length
        omega)
    · show PostS p (nmR a bs dd _ S) M H1 _ _
      rw [hrun a S]
      exact hQ
  refine wpAny_call (codeAny_mono rc fun r s2 hq => ?_)
  cases r with
  | error e => exact (show False from hq).elim
  | ok fl =>
    cases fl with
    | ret u => exact I1.after hq
    | next => exact False.elim hq
    | brk => exact False.elim hq
    | cont => exact False.elim hq
end G
set_option maxHeartbeats 1000000
namespace G
open PySem PySem.Spec PyProof.Rows L2 HotX L2H LamX
variable {p : Pm} {X : Cx} {pins : List (Addr × Obj)} {σ : L2.St} {H : Hp} {s : Shared}
theorem er_ok {x q : Str} {sg : Scope} {g : Addr} {cdg : Value} {bg : List Stmt} {Ng : List Str} {ag : Arg} {e : ErD} (h : erBody sg Ng bg = some e) (hz : e.z = []) (S : FnScope Ng [ag.arg] sg) (NK : NmK p X.mg e.nn e.ae) (hK : X.K = p.K) (f c' : Addr) (Q : VK) (tl : XK → Hp → VK → Prop)
    (hr : Room 1 (X.A.deeper (envOfC x sg s.heap.objs.size g cdg)))
    (act : ∀ (W : WX) (pn : List (Addr × Obj)) (xe : Value → Shared → Prop) (E : XK) (p1 p2 : Pos), Ng[0]? = some e.a → Vis sg e.a → (e.a == ("__debug__" : Str)) = false → (e.a == ("__classdict__" : Str)) = false → L2N.Takes ((cxOf C8.CX0 X.prog X.w X.K X.mg X.base Ng x sg g cdg X.A X.stack s H C8.E0).tr pn xe) W → (∀ cls d σ' H', E cls d H' → W cls d σ' H') →
      PE ((cxOf C8.CX0 X.prog X.w X.K X.mg X.base Ng x sg g cdg X.A X.stack s H C8.E0).tr pn xe) (.Call (.Name e.a p1) [] [] p2) (fun σZ HZ Q => σZ[0]? = some (some (.ref f)) ∧ HZ c' = some (LamX.CodeO c' q) ∧ tl E HZ Q))
    (hc : H c' = some (LamX.CodeO c' q)) (ht : tl (exE p Q) H fun _ H' => Q (.str (SS [])) H') :
    ∃ t, PSs (cxOf C8.CX0 X.prog X.w X.K X.mg X.base Ng x sg g cdg X.A X.stack s H C8.E0).nox bg t ∧ t { nx := fun _ H' => Q .non H', rt := Q } (L2.start Ng [.ref f]) H := by
  unfold erBody at h
  split at h
  · rename_i a q1 q2 q3 ae q4 en nn q5 en2 q6 q7 q8 q9 q10 z k11 q11 q12
    simp only [Option.bind_eq_bind, Option.bind_eq_some_iff] at h
    obtain ⟨ia, h1, ie, h2, h3⟩ := h
    split at h3
    · rename_i hh
      obtain ⟨rfl, rfl, g1, g2, g3, g4, g5⟩ := hh
      cases h3
      have hz : z.cps.toList = [] := hz
      have vA := varOf_of (X := (cxOf C8.CX0 X.prog X.w X.K X.mg X.base Ng x sg g cdg X.A X.stack s H C8.E0).nox) h1 rfl rfl
      have vE := varOf_of (X := (cxOf C8.CX0 X.prog X.w X.K X.mg X.base Ng x sg g cdg X.A X.stack s H C8.E0).nox) h2 rfl rfl
      have gA := isGl_of (X := (cxOf C8.CX0 X.prog X.w X.K X.mg X.base Ng x sg g cdg X.A X.stack s H C8.E0).nox) g1 rfl
      have gN := isGl_of (X := (cxOf C8.CX0 X.prog X.w X.K X.mg X.base Ng x sg g cdg X.A X.stack s H C8.E0).nox) g2 rfl
      obtain ⟨CA, c1, c2⟩ := NK.ca
      refine ⟨_, pss_cons (L2N.ps_try_as (X := (cxOf C8.CX0 X.prog X.w X.K X.mg X.base Ng x sg g cdg X.A X.stack s H C8.E0).nox) (c := .ref CA) (Wout := noW)
        (tb := fun W D σ H => ∃ Ech : XK, (∀ cls d σ' H', Ech cls d H' → W cls d σ' H') ∧ σ[0]? = some (some (.ref f)) ∧ H c' = some (LamX.CodeO c' q) ∧ tl Ech H fun _ H1 => D.nx σ H1)
        (ts := fun a cls d D σ H => (∃ σ' : L2.St, σ = σ'.set ie (some (.ref a))) ∧ exE p D.rt cls d H) rfl rfl S.nd vE.1 g3 ⟨gA.1, gA.2.2, .inl c1⟩ takes0N (fun W pn xe tk _ => ?_) (fun a oe cls d pn hzn hdat => pss_one (ps_ret (pe_names (X := (cxOf C8.CX0 X.prog X.w X.K X.mg X.base Ng x sg g cdg X.A X.stack s H C8.E0).nox) NK hK hr gN.1 gN.2.2 vE.1 vE.2.1 vE.2.2.1 vE.2.2.2 hzn hdat)))) (pss_one (ps_ret pe_str)), ?_⟩
      · refine ⟨fun pz sz σz Hz D I ⟨Ech, hW, k1, k2, k3⟩ => ?_⟩
        exact (pss_one (ps_expr (act W pn xe Ech q1 q2 vA.1 vA.2.1 vA.2.2.1 vA.2.2.2 tk hW) rfl)).run pz sz σz Hz D I ⟨k1, k2, k3⟩
      · have s0 : (L2.start Ng [V.ref f])[0]? = some (some (V.ref f)) := rfl
        refine ⟨exE p Q, fun cls d σ' H' hx => ?_, s0, hc, ?_⟩
        · obtain ⟨c, M, S, k1, k2, k3, k4, k5⟩ := hx
          refine ⟨true, ?_, fun _ a _ => ⟨⟨σ', rfl⟩, c, M, S, k1, k2, k3, k4, k5⟩, fun z => Bool.noConfusion z⟩
          rw [k2]
          have := c2 c k1
          rw [← hK] at this
          exact this
        · have e : SS [] = z := by
            have := SS_cps z
            rw [hz] at this
            exact this
          rw [← e]
          exact ht
    · cases h3
  · cases h
end G
set_option maxHeartbeats 1000000
namespace G
open PySem PySem.Spec PyProof.Rows L2 HotX L2H LamX
variable {p : Pm} {X : Cx} {pins : List (Addr × Obj)} {σ : L2.St} {H : Hp} {s : Shared} {W : WX}
/-- the state behind a lambda's making -/
theorem Ext.made {M : Ms} {S : Store} {H1 : Hp} (s : SOk p M S H) (e : LamX.ExtN H H1) : Ext M H M H1 := by
  refine ⟨⟨[], by simp⟩, rfl, fun a h h' => absurd h h', fun a o _ h hi => e a o h fun ps z => ?_, fun a h => ?_⟩
  · subst z
    cases hi
  · obtain ⟨vs, hv⟩ := s.zl a h
    rw [hv]
    exact e a _ hv fun _ z => nomatch z
theorem SOk.made {M : Ms} {S : Store} {H1 : Hp} (s : SOk p M S H) (e : LamX.ExtN H H1) (t : LamX.Tabs p.T H1) : SOk p M S H1 := by
  have E := Ext.made s e
  exact ⟨s.len, s.nd, fun a h => by rw [E.zk a h]; exact s.zl a h, s.zd, fun i a o h1 h2 => (s.obj i a o h1 h2).kp E.kpp (fun vs h nt => e a _ h nt), t⟩
def lamR (r : Ev) : Ev := fun ρ S => match r ρ S with
    | .ok _ S1 => .ok (.str []) S1
    | .exc c _ S1 => if c < 13 then .ok (.str (excWord c)) S1 else .bad
    | .bad => .bad
/-- x(lambda: body), x the error's teller -/
theorem s_lam {x : Str} {g c P : Addr} {k : Nat} {ag : Arg} {bg : List Stmt} {sg : Scope} {Ng : List Str} {fd : FuncData} {e : ErD} {params : Arguments} {body : Expr} {scope : Scope} {rb : Ev} {q lpos pos : Pos} (hg : Gl X x) (hdb : (x == ("__debug__" : Str)) = false) (hm : X.mg x = some (.ref g)) (hK : X.K = p.K)
    (F : FunD p.K x x ⟨[], [ag], none, [], [], none, []⟩ bg sg [] [] g fd) (Sg : FnScope Ng [ag.arg] sg) (he : erBody sg Ng bg = some e) (hz : e.z = []) (NK : NmK p X.mg e.nn e.ae)
    (TB : LamX.TabB X.base X.mg c P) (hcode : X.env.code = .ref c) (hmT : (P, X.env.qual ++ "<lambda>") ∈ p.T) (hu : ∀ r ∈ p.T, r.1 = P → r.2 = X.env.qual ++ "<lambda>")
    (hr : Room (k + 2) X.A) (LS : LamX.LamS X.env.scope scope) (hp : params = ⟨[], [], none, [], [], none, []⟩)
    (hbody : ∀ (A : Around) (outer : List PySem.Env) (s : Shared) (H : Hp) (E : XK) (f c' : Addr), Room k (A.deeper (LamX.lamEnv X scope s.heap.objs.size f c')) → PE (lamN X A outer s H E scope f c') body (tD p rb (fun cls d _ H => E cls d H))) :
    PE X (.Call (.Name x q) [.Lambda params body scope lpos] [] pos) (tD p (lamR rb) W) := by
  subst hp
  refine peOf fun pins s σ H ρ M S Q A z => ?_
  have bG : Binds p.K fd [ag.arg] [] := F.bindsN fun kV doc pm an cdv ct us hl => bind_plain (args := [ag]) (by simp) hl
  obtain ⟨oc, od, dV, kV, doc, pm, an, cdv, ct, osl, rfl, lk, hcg, _, _⟩ := F.ex
  refine wpAny_Call_Name_kw (ld_glob A.inv hg hm ?_ hdb)
  refine PySem.W.callWith_K (h₀ := X.base) A.inv.ok.mod.kin (by rw [hK]; exact F.kp) ?_ (by rfl) (by rfl)
  show wpAny _ _ (spliced ((false, eval (.Lambda ⟨[], [], none, [], [], none, []⟩ body scope lpos) X.env) :: [])) _ _ s
  refine Calls.spliced_cons (LamX.lam_make2 (T := p.T) A.inv TB hcode hmT hu A.ok.tabs rfl (LS.has A.inv.ok) fun f c' pm' ctv H1 s' I1 eN T1 hf hfn hfr hco => ?_)
  refine Calls.spliced_nil ⟨I1.kIn, ?_⟩
  have EM := Ext.made A.ok eN
  have ok1 := A.ok.made eN T1
  have env1 := A.env.ext EM
  have z1 := Post.ext z EM
  have rc : codeAny (model X.prog X.w) X.A (.call (.ref g) ⟨[.ref f], []⟩) (CR C8.CX0 X.stack X.prog X.w H1 s' Q C8.E0) s' := by
    refine LamX.run_ofS (N := Ng) (ps := [ag.arg]) (us := [.ref f]) (vs := [.ref f]) (K := X.K) (mg := X.mg) (base := X.base) (k := k + 1) (by rw [hK]; exact lk) (by rw [hK]; exact hcg) Sg hr I1.env0 (by rw [← List.append_nil [ag.arg]]; exact (hK ▸ bG : Binds X.K _ [ag.arg] []) s' [.ref f] I1.kIn rfl) (.cons rfl .nil) rfl fun hr' => ?_
    have hR1 : Room 1 (X.A.deeper (envOfC x sg s'.heap.objs.size g cdv)) := hr'.mono (by omega)
    have hT : tD p rb (fun cls d _ H => exE p Q cls d H) σ H1 fun _ H' => Q (.str (SS [])) H' := by
      refine ⟨ρ, M, S, env1, ok1, ?_⟩
      unfold lamR at z1
      cases er : rb ρ S with
      | ok v S1 =>
        rw [er] at z1
        exact fun M' H' w ex s1 _ => z1 M' H' (.str (SS [])) ex s1 (by unfold Rep; exact ⟨rfl, by decide⟩)
      | exc cc v S1 =>
        rw [er] at z1
        simp only at z1
        intro M' H' cls d ex s1 hE
        by_cases hc : cc < 13
        · rw [if_pos hc] at z1
          exact ⟨cc, M', S1, hc, hE.1, hE.2, s1, fun M2 H2 w e2 => z1 M2 H2 w (ex.trans e2)⟩
        · rw [if_neg hc] at z1
          exact z1.elim
      | bad => rw [er] at z1; exact z1
    obtain ⟨t', ht', hq'⟩ := er_ok (q := X.env.qual ++ "<lambda>") (cdg := cdv) he hz Sg NK hK f c' Q (fun E H' Q' => tD p rb (fun cls d _ H => E cls d H) σ H' Q') hR1 (fun W pn xe E p1 p2 n1 n2 n3 n4 tk hW => lam_act I1 LS hf hfn hfr (by rfl) tk hW hr' (fun A outer s H hr2 => hbody A outer s H E f c' hr2) n1 n2 n3 n4) hco hT
    exact ⟨t', ht'.nox, hq'⟩
  refine wpAny_call (codeAny_mono rc fun r s2 hq => ?_)
  cases r with
  | error e => exact (show False from hq).elim
  | ok fl =>
    cases fl with
    | ret u => exact I1.after hq
    | next => exact False.elim hq
    | brk => exact False.elim hq
    | cont => exact False.elim hq
end G
set_option maxHeartbeats 1000000
namespace G
open PySem PySem.Spec PyProof.Rows L2 LamX
structure Dd where
  x : Str
  g : Nat
  N : List Str
  st : Stmt
  lam : Bool
structure DdOk (p : Pm) (mg : Str → Option Value) (base : Heap) (d : Dd) (f : Addr) (fd : FuncData) : Prop where
  gm : mg d.x = some (.ref f)
  F : FunD p.K d.x d.x (defArgs d.st) (defBody d.st) (defScope d.st) [] [] f fd
  lam : d.lam = true → ∃ c Pt, fd.code = .ref c ∧ LamX.TabB base mg c Pt ∧ (Pt, (d.x ++ (".<locals>." : Str)) ++ ("<lambda>" : Str)) ∈ p.T ∧ ∀ r ∈ p.T, r.1 = Pt → r.2 = (d.x ++ (".<locals>." : Str)) ++ ("<lambda>" : Str)
/-- the module's names -/
structure MdK (p : Pm) (G : Gb) (mg : Str → Option Value) : Prop where
  cst : ∀ x c, G.cst.lookup x = some c → ∃ u, mg x = some u ∧ RelV (cV c) u ∧ okC c = true
  blt : ∀ x, x ∈ G.blt → mg x = none
  exs : ∀ x c, G.exs.lookup x = some c → ∃ (B newId initId : String) (bmB : List Value), ExcBaseFacts B newId initId bmB ∧ PySem.W.excIn p.K (p.XA c) bmB newId = true ∧ mg x = some (.ref (p.XA c)) ∧ PySem.W.keepIn p.K (.ref (p.XA c)) = true ∧
    PySem.W.subIn p.K (.ref (p.XA c)) (.type "BaseException") = some true ∧ PySem.W.typeIn p.K (.ref (p.XA c)) = some (.type "type")
  ler : ∀ x, G.ler = some x → ∃ (g : Addr) (ag : Arg) (bg : List Stmt) (sg : Scope) (Ng : List Str) (fd : FuncData) (e : ErD), mg x = some (.ref g) ∧ FunD p.K x x ⟨[], [ag], none, [], [], none, []⟩ bg sg [] [] g fd ∧ FnScope Ng [ag.arg] sg ∧ erBody sg Ng bg = some e ∧ e.z = [] ∧ NmK p mg e.nn e.ae
structure AllK (p : Pm) (G : Gb) (mg : Str → Option Value) (base : Heap) (ds : List Dd) (Pg : Prg) : Prop where
  md : MdK p G mg
  dk : ∀ d ∈ ds, ∃ f fd, DdOk p mg base d f fd
  cp : ∀ d ∈ ds, ∃ fi, Pg.lookup d.g = some fi ∧ cF G (if d.lam then cL G else noL) d.N d.st = some fi
  fns : ∀ x g ar, G.fns.lookup x = some (g, ar) → ∃ d ∈ ds, d.x = x ∧ d.g = g ∧ ∃ fi, Pg.lookup g = some fi ∧ fi.ar = ar
variable {p : Pm} {G : Gb} {mg : Str → Option Value} {base : Heap} {ds : List Dd} {Pg : Prg} {P : Program} {w : World}
def FnsAt (p : Pm) (mg : Str → Option Value) (base : Heap) (ds : List Dd) (Pg : Prg) (P : Program) (w : World) (k : Nat) (F : Orc) : Prop :=
  ∀ d ∈ ds, ∃ f fd fi, DdOk p mg base d f fd ∧ Pg.lookup d.g = some fi ∧ FnOk P w p.K mg base (L2N.CX P w) k f fd ((defArgs d.st).args.map (·.arg)) (SpD p F d.g fi.ar)
theorem bad_sp {g ar : Nat} {vs : List V} {H : Hp} {Q : VK} {E : XK} (h : SpD p badO g ar vs H Q E) : False := by
  obtain ⟨_, _, _, _, _, _, z⟩ := h
  exact z
theorem fns_bad (A : AllK p G mg base ds Pg) (k : Nat) : FnsAt p mg base ds Pg P w k badO := fun d hd => by
  obtain ⟨f, fd, h⟩ := A.dk d hd
  obtain ⟨fi, h1, _⟩ := A.cp d hd
  exact ⟨f, fd, fi, h, h1, fun vs H Q E z => (bad_sp z).elim, fun _ _ _ _ _ _ _ _ _ _ _ _ _ z => (bad_sp z).elim⟩
theorem run_bad {g : Nat} {fi : FI} (h : Pg.lookup g = some fi) {xs : List PV} (hl : xs.length ≠ fi.ar) (S : Store) : ∀ n, run Pg n g xs S = .bad
  | 0 => rfl
  | n + 1 => by
    rw [run_succ]
    unfold step
    rw [h]
    simp only [if_neg hl]
theorem fnk_of (A : AllK p G mg base ds Pg) {k n : Nat} (h : FnsAt p mg base ds Pg P w k (run Pg n)) {X : Cx} (hP : X.prog = P) (hw : X.w = w) (hK : X.K = p.K) (hm : X.mg = mg) (hb : X.base = base) (hr : Room k X.A) {x : Str} {g ar : Nat} (hx : G.fns.lookup x = some (g, ar)) : FnK p X (run Pg n) x g ar := by
  subst hP hw hm hb
  obtain ⟨d, hd, rfl, rfl, fi, h1, rfl⟩ := A.fns x g ar hx
  obtain ⟨f, fd, fi', dk, h2, hF⟩ := h d hd
  rw [h1] at h2
  cases h2
  obtain ⟨fi2, h3, hc⟩ := A.cp d hd
  rw [h1] at h3
  cases h3
  obtain ⟨name, args, body, b1, b2, sc, q1, q2, q3, mv, rm, hst, ⟨as, rfl⟩, S, har, hnl, hbb⟩ := cF_of hc
  have D := dk.F
  rw [hst] at D hF
  have nd : (as.map (·.arg)).Nodup := by
    have e : List.take (as.map (·.arg)).length d.N = as.map (·.arg) := S.pre
    rw [← e]
    exact S.nd.sublist (List.take_sublist _ _)
  refine ⟨⟨k, f, fd, as.map (·.arg), dk.gm, by rw [hK]; exact dk.F.kp, har.symm, ?_, hr, by rw [hK]; exact hF⟩, fun xs S hl => run_bad h1 hl S n⟩
  rw [hK]
  exact D.bindsN fun kV doc pm an cdv ct us hl => bind_plain nd hl
/-- a lambda's own context -/
theorem ck_lam (A : AllK p G mg base ds Pg) {k n : Nat} (h : FnsAt p mg base ds Pg P w k (run Pg n)) {X : Cx} {scope : Scope} {E : XK} {f c' : Addr} {A' : Around} {outer : List PySem.Env} {s : Shared} {H : Hp} (hP : X.prog = P) (hw : X.w = w) (hK : X.K = p.K) (hm : X.mg = mg) (hb : X.base = base) (hnd : X.N.Nodup)
    (hr : Room k (A'.deeper (LamX.lamEnv X scope s.heap.objs.size f c'))) : CK p G noL (lamN X A' outer s H E scope f c') scope X.N (run Pg n) badO (fun cls d _ H => E cls d H) where
  hK := hK
  calm := rfl
  nd := hnd
  hN := rfl
  hsc := rfl
  room := hr.mono (Nat.zero_le _)
  tk := L2N.takes_of (X := lamN X A' outer s H E scope f c') rfl rfl rfl rfl
  fns := fun x g ar hx => fnk_of A h (X := lamN X A' outer s H E scope f c') hP hw hK hm hb hr hx
  cst := fun x c hx => by
    show ∃ u, X.mg x = some u ∧ _
    rw [hm]; exact A.md.cst x c hx
  blt := fun x hx => by
    show X.mg x = none
    rw [hm]; exact A.md.blt x hx
  lam := fun e c hx => nomatch hx
theorem ev_lam (cb : Ex) (F F2 : Orc) : (fun ρ S => ev (.lam cb) F F2 ρ S) = lamR (fun ρ S => ev cb F2 badO ρ S) := rfl
theorem lam_of (A : AllK p G mg base ds Pg) {n m : Nat} (h2 : FnsAt p mg base ds Pg P w n (run Pg m)) {X : Cx} (hP : X.prog = P) (hw : X.w = w) (hK : X.K = p.K) (hm : X.mg = mg) (hb : X.base = base) (hnd : X.N.Nodup) {cc Pt : Addr} (k1 : X.env.code = .ref cc) (TB : LamX.TabB base mg cc Pt) (k3 : (Pt, X.env.qual ++ "<lambda>") ∈ p.T)
    (k4 : ∀ r ∈ p.T, r.1 = Pt → r.2 = X.env.qual ++ "<lambda>") (hr : Room (n + 2) X.A) {sc : Scope} {N : List Str} (hs : X.env.scope = sc) (hN : X.N = N) {F : Orc} {W : WX} (e : Expr) (c : Ex) (hx : cL G sc N e = some c) : PE X e (tD p (fun ρ S => ev c F (run Pg m) ρ S) W) := by
  unfold cL at hx
  split at hx
  · rename_i x q params lbody scope lpos pos
    split at hx
    · rename_i hh
      obtain ⟨l1, l2, l3, l4⟩ := hh
      simp only [Option.map_eq_some_iff] at hx
      obtain ⟨cb, hcb, rfl⟩ := hx
      obtain ⟨g, ag, bg, sg, Ng, fdg, er, m1, m2, m3, m4, m5, m6⟩ := A.md.ler x l1
      obtain ⟨g1, g2, g3⟩ := isGl_of (X := X) l2 hs
      have hp : params = ⟨[], [], none, [], [], none, []⟩ := by
        unfold lamPar at l4
        split at l4
        · rfl
        · cases l4
      rw [ev_lam]
      have LS : LamX.LamS X.env.scope scope := by rw [hs]; exact LamX.lamS_by l3
      have hbody : ∀ (A2 : Around) (outer2 : List PySem.Env) (s2 : Shared) (H2 : Hp) (E2 : XK) (f2 c2 : Addr), Room n (A2.deeper (LamX.lamEnv X scope s2.heap.objs.size f2 c2)) → PE (lamN X A2 outer2 s2 H2 E2 scope f2 c2) lbody (tD p (fun ρ S => ev cb (run Pg m) badO ρ S) (fun cls d _ H => E2 cls d H)) := fun A2 outer2 s2 H2 E2 f2 c2 hr2 => by
        have C := ck_lam (E := E2) A h2 (X := X) (outer := outer2) (H := H2) hP hw hK hm hb hnd hr2
        rw [hN] at C
        exact ((snd_all p G 60).e C hcb).1
      exact s_lam (k := n) g1 g3 (by rw [hm]; exact m1) hK m2 m3 m4 m5 (by rw [hm]; exact m6) (by rw [hb, hm]; exact TB) k1 k3 k4 hr LS hp hbody
    · cases hx
  · cases hx
/-- what a def's context knows -/
theorem cks_of (A : AllK p G mg base ds Pg) {L : LamC} {x : Str} {N : List Str} {st : Stmt} {f : Addr} {fi : FI} (hc : cF G L N st = some fi) {n : Nat} {F2 : Orc} (h : FnsAt p mg base ds Pg P w (n + 2) (run Pg n)) (cdv : Value) (A' : Around) (outer : List PySem.Env) (s : Shared) (H : Hp) (E : XK)
    (hr : Room (n + 2) (A'.deeper (envOfC x (defScope st) s.heap.objs.size f cdv)))
    (lam : ∀ (e : Expr) (c : Ex), L (defScope st) N e = some c → PE (cxOf (L2N.CX P w) P w p.K mg base N x (defScope st) f cdv A' outer s H E) e (tD p (fun ρ S => ev c (run Pg n) F2 ρ S) (fun cls d _ H => E cls d H))) :
    CKS p G L (cxOf (L2N.CX P w) P w p.K mg base N x (defScope st) f cdv A' outer s H E) (defScope st) N (run Pg n) F2 (fun cls d _ H => E cls d H) := by
  obtain ⟨name, args, body, b1, b2, sc, q1, q2, q3, mv, rm, hst, ⟨as, rfl⟩, S, har, hnl, hbb⟩ := cF_of hc
  have tk : L2N.Takes (cxOf (L2N.CX P w) P w p.K mg base N x (defScope st) f cdv A' outer s H E) (fun cls d _ H => E cls d H) := L2N.takes_of rfl rfl rfl rfl
  have ck : CK p G L (cxOf (L2N.CX P w) P w p.K mg base N x (defScope st) f cdv A' outer s H E) (defScope st) N (run Pg n) F2 (fun cls d _ H => E cls d H) :=
    { hK := rfl, calm := rfl, nd := S.nd, hN := rfl, hsc := rfl, room := hr.mono (Nat.zero_le _), tk := tk, fns := fun y g ar hx => fnk_of A h rfl rfl rfl rfl rfl hr hx, cst := A.md.cst, blt := A.md.blt, lam := lam }
  refine { ck := ck, fnc := fun _ => rfl, pass := passes_of rfl, exs := fun y c hx => ?_ }
  obtain ⟨B, newId, initId, bmB, e1, e2, e3, e4, e5, e6⟩ := A.md.exs y c hx
  exact ⟨B, newId, initId, bmB, e1, e2, e3, e4, raises_own e5 e6⟩
/-- THE levels -/
theorem levels (A : AllK p G mg base ds Pg) : ∀ n, FnsAt p mg base ds Pg P w (n + 2) (run Pg n) := by
  intro n
  induction n using Nat.strongRecOn with
  | _ n ih =>
    cases n with
    | zero => exact fns_bad A 2
    | succ n =>
      have h1 := ih n (Nat.lt_succ_self n)
      have h2 : FnsAt p mg base ds Pg P w n (run Pg (n - 2)) := by
        rcases n with _ | _ | m
        · exact fns_bad A 0
        · exact fns_bad A 1
        · exact ih m (by omega)
      intro d hd
      obtain ⟨f, fd, dk⟩ := A.dk d hd
      obtain ⟨fi, hg, hc⟩ := A.cp d hd
      refine ⟨f, fd, fi, dk, hg, ?_⟩
      rw [run_succ]
      refine fn_ok hg hc dk.F fun cdv A' outer s H E hcd hr => cks_of A hc h1 cdv A' outer s H E hr fun e c hx => ?_
      obtain ⟨_, _, _, _, _, _, _, _, _, _, _, _, _, S, _⟩ := cF_of hc
      by_cases hl : d.lam = true
      · rw [if_pos hl] at hx
        obtain ⟨cc, Pt, k1, TB, k3, k4⟩ := dk.lam hl
        have k1' : (cxOf (L2N.CX P w) P w p.K mg base d.N d.x (defScope d.st) f cdv A' outer s H E).env.code = .ref cc := by rw [← k1, hcd]; rfl
        have hq : (cxOf (L2N.CX P w) P w p.K mg base d.N d.x (defScope d.st) f cdv A' outer s H E).env.qual = d.x ++ (".<locals>." : Str) := rfl
        have k3' : (Pt, (cxOf (L2N.CX P w) P w p.K mg base d.N d.x (defScope d.st) f cdv A' outer s H E).env.qual ++ ("<lambda>" : Str)) ∈ p.T := by rw [hq]; exact k3
        have k4' : ∀ r ∈ p.T, r.1 = Pt → r.2 = (cxOf (L2N.CX P w) P w p.K mg base d.N d.x (defScope d.st) f cdv A' outer s H E).env.qual ++ ("<lambda>" : Str) := by rw [hq]; exact k4
        refine lam_of (P := P) (w := w) (mg := mg) (base := base) (cc := cc) (Pt := Pt) A h2 ?_ ?_ ?_ ?_ ?_ ?_ k1' TB k3' k4' ?_ ?_ ?_ e c hx
        · rfl
        · rfl
        · rfl
        · rfl
        · rfl
        · exact S.nd
        · exact hr
        · rfl
        · rfl
      · rw [if_neg hl] at hx
        exact nomatch hx
end G
set_option maxHeartbeats 1000000
namespace G
open PySem PySem.Spec PyProof.Rows L2 LamX
variable {p : Pm} {G : Gb} {mg : Str → Option Value} {ds : List Dd} {Pg : Prg} {w : World}
theorem fd_inj {K : PySem.W.Frag} {x : Str} {a a' : Arguments} {b b' : List Stmt} {s s' : Scope} {f : Addr} {fd fd' : FuncData} (F : FunD K x x a b s [] [] f fd) (F' : FunD K x x a' b' s' [] [] f fd') : fd = fd' := by
  obtain ⟨_, _, _, _, _, _, _, _, _, _, _, lk, _⟩ := F.ex
  obtain ⟨_, _, _, _, _, _, _, _, _, _, _, lk', _⟩ := F'.ex
  rw [lk] at lk'
  cases lk'
  rfl
theorem law_end {l : PySem.W.OpenLaw} {n m : Nat} {cs : List (Addr × Addr)} {x : Str} {fa : Addr} {fd : FuncData} {h : Heap} {d : Dd} {fi : FI} (hd : d ∈ ds) (hg : Pg.lookup d.g = some fi) (har : fi.ar = 1) (hps : (defArgs d.st).args.map (·.arg) = [x]) (hmg : mg d.x = some (.ref fa))
    (F : FunD p.K d.x d.x (defArgs d.st) (defBody d.st) (defScope d.st) [] [] fa fd) (hplain : ∃ as, defArgs d.st = ⟨[], as, none, [], [], none, []⟩)
    (e1 : ∀ q ∈ cs, h.get? q.2 = some { cls := .none, data := .fields #[] }) (e2 : ∀ q ∈ cs, p.K.lookup q.2 = none) (e3 : ∀ q ∈ cs, PySem.W.CodeHd h q.1 q.2)
    (hT : ∀ q ∈ p.T, ∃ c, (c, q.1) ∈ cs) (hA : ∀ base : Heap, p.K.In base → base.Ns mainGlobals mg → (∀ q ∈ cs, LamX.TabB base mg q.1 q.2) → AllK p G mg base ds Pg)
    (hrun : ∀ ns : List Int, ns.length ≤ n → (∀ z ∈ ns, Builtin.Int.intBits z ≤ 1048576) → ∃ S', run Pg m d.g [.scr ns] [] = .ok (.bl true) S') : LamX.LawAtS l w p.K (L2N.CX l.prog w) (m + 2) n x mg fa h := by
  obtain ⟨as, hpl⟩ := hplain
  rw [hpl] at hps
  refine ⟨fd, cs, SpD p (run Pg m) d.g 1, e1, e2, e3, fun s u => ?_, fun H a ns hl hb hH hS => ?_, fun base hK hN hTB => ?_⟩
  · have F' := F
    rw [hpl] at F'
    have b := F'.bindsA (ps := as.map (·.arg)) (fun kV doc pm an cdv ct us hl => bind_plain (by rw [hps]; simp) hl) s [u] (by rw [hps]; rfl)
    rw [hps] at b
    exact b
  · obtain ⟨S', hr⟩ := hrun ns hl hb
    have tabs : LamX.Tabs p.T H := fun q hq => by
      obtain ⟨c, hc⟩ := hT q hq
      exact LamX.TabS.nil (hH _ hc)
    refine ⟨rfl, [.scr ns], ⟨[], []⟩, [], .cons ?_ .nil, ⟨rfl, List.nodup_nil, fun a h => absurd h (by simp), fun a h => absurd h (by simp), fun i a o h => absurd h (by simp), tabs⟩, ?_⟩
    · unfold Rep
      refine ⟨a, rfl, ?_⟩
      rcases hS with hS | hS
      · exact .inl ⟨hS, fun z => by rcases z with z | z <;> cases z⟩
      · exact .inr hS
    · rw [hr]
      intro M' H' v ex ok r
      unfold Rep at r
      exact r
  · have A := hA base hK hN hTB
    obtain ⟨f, fd', fi', dk, g1, hF⟩ := levels (P := l.prog) (w := w) A m d hd
    have ef : f = fa := by
      have := dk.gm
      rw [hmg] at this
      cases this
      rfl
    subst ef
    have efd := fd_inj dk.F F
    subst efd
    rw [hg] at g1
    cases g1
    rw [har] at hF
    have e : (defArgs d.st).args.map (·.arg) = [x] := by rw [hpl]; exact hps
    rw [e] at hF
    exact hF
end G
set_option maxHeartbeats 1000000
namespace G
open PySem PySem.Spec PyProof.Rows L2 LamX
def excCB (K : PySem.W.Frag) (D : Addr) : Bool :=
  decide (PySem.W.findIn K (.ref D) "__getattribute__" = some (some (.builtin "BaseException.__getattribute__"))) && (decide (PySem.W.findIn K (.ref D) "__getattr__" = some none) && (decide (PySem.W.subIn K (.ref D) (.type "BaseException") = some true) && (PySem.W.hasDictIn K D &&
    (decide (PySem.W.findIn K (.ref D) "__class__" = some (some (.builtin "object.__class__"))) && (decide (PySem.W.specialIn K (.builtin "object.__class__") "__get__" = some (some (.builtin "getset_descriptor.__get__"))) && (decide (PySem.W.takesIn K (.builtin "object.__class__") = some true) && decide (PySem.W.mroIn K D (.type "object") = some true)))))))
theorem excC_of {K : PySem.W.Frag} {D : Addr} (h : excCB K D = true) : ExcC K D := by
  unfold excCB at h
  simp only [Bool.and_eq_true, decide_eq_true_eq] at h
  obtain ⟨h1, h2, h3, h4, h5, h6, h7, h8⟩ := h
  exact ⟨h1, h2, h3, h4, h5, h6, h7, h8⟩
def clsV (K : PySem.W.Frag) (y : Str) : Value := if y = ("ValueError" : Str) then .type "ValueError" else .ref (He.ga K y)
def flag (x y : Str) : Bool := decide (y = x) || decide (y = ("ValueError" : Str))
/-- xs: the errors' names; cls: the classes that are asked; ca: what the clause catches -/
def nmB (xs cls : List Str) (ca : Str) (K : PySem.W.Frag) : Bool := xs.all fun x => excCB K (He.ga K x) && (decide (PySem.W.exmOne K (.ref (He.ga K x)) (.ref (He.ga K ca)) = some true) &&
  cls.all fun y => decide (PySem.W.kitOne K (.ref (He.ga K x)) (clsV K y) = some (flag x y)))
theorem nmB_of {xs cls : List Str} {ca : Str} {K : PySem.W.Frag} (h : nmB xs cls ca K = true) {x : Str} (hx : x ∈ xs) : ExcC K (He.ga K x) ∧ PySem.W.exmOne K (.ref (He.ga K x)) (.ref (He.ga K ca)) = some true ∧ ∀ y ∈ cls, PySem.W.kitOne K (.ref (He.ga K x)) (clsV K y) = some (flag x y) := by
  have h1 := List.all_eq_true.mp h x hx
  simp only [Bool.and_eq_true, decide_eq_true_eq] at h1
  obtain ⟨a, b, c⟩ := h1
  exact ⟨excC_of a, b, fun y hy => of_decide_eq_true (List.all_eq_true.mp c y hy)⟩
end G
set_option maxHeartbeats 1000000
namespace G
open PySem PySem.Spec PyProof.Rows L2 LamX
structure Mo where
  /-- all defs, where they stand -/
  defs : List (Str × Nat)
  /-- the errors that are raised with a text, by number -/
  excs : List Str
  /-- other classes -/
  more : List Str
  blts : List Str
  csts : List (Str × Ct)
def cstFa : Str × Ct → He.Fa
  | (x, .int i) => .int x i
  | (x, .str z) => .str x (SS z)
  | (x, _) => .free x
def cstB : Ct → Bool
  | .int _ => true
  | .str z => okS z
  | _ => false
def Mo.fa (m : Mo) : List He.Fa := m.defs.map (fun q => .glo q.1) ++ (m.excs.map .glo ++ (m.more.map .glo ++ (m.blts.map .free ++ (m.csts.map cstFa ++ m.excs.map .exc))))
def Mo.fn (m : Mo) (top : Nat → Stmt) : List He.DefD := m.defs.map fun q => ⟨(q.1, none), q.1, q.1, defArgs (top q.2), defBody (top q.2), defScope (top q.2), [], []⟩
variable {m : Mo} {top : Nat → Stmt} {K : PySem.W.Frag} {h : Heap} {mg : Str → Option Value}
theorem Mo.glo (KX : K.In h) (N : h.Ns mainGlobals mg) (c : He.SaysD m.fa (m.fn top) K) {x : Str} (hx : x ∈ m.defs.map (·.1) ∨ x ∈ m.excs ∨ x ∈ m.more) : mg x = some (.ref (He.ga K x)) := by
  refine He.glo_ok KX N (c.facts ?_)
  unfold Mo.fa
  rcases hx with hx | hx | hx
  · obtain ⟨q, hq, rfl⟩ := List.mem_map.mp hx
    exact List.mem_append_left _ (List.mem_map.mpr ⟨q, hq, rfl⟩)
  · exact List.mem_append_right _ (List.mem_append_left _ (List.mem_map.mpr ⟨x, hx, rfl⟩))
  · exact List.mem_append_right _ (List.mem_append_right _ (List.mem_append_left _ (List.mem_map.mpr ⟨x, hx, rfl⟩)))
theorem Mo.free (KX : K.In h) (N : h.Ns mainGlobals mg) (c : He.SaysD m.fa (m.fn top) K) {x : Str} (hx : x ∈ m.blts) : mg x = none := by
  refine He.free_ok KX N (c.facts ?_)
  unfold Mo.fa
  exact List.mem_append_right _ (List.mem_append_right _ (List.mem_append_right _ (List.mem_append_left _ (List.mem_map.mpr ⟨x, hx, rfl⟩))))
theorem Mo.cst (KX : K.In h) (N : h.Ns mainGlobals mg) (c : He.SaysD m.fa (m.fn top) K) (hb : m.csts.all (fun q => cstB q.2) = true) {x : Str} {v : Ct} (hx : (x, v) ∈ m.csts) : ∃ u, mg x = some u ∧ RelV (cV v) u ∧ okC v = true := by
  have mem : cstFa (x, v) ∈ m.fa := by
    unfold Mo.fa
    exact List.mem_append_right _ (List.mem_append_right _ (List.mem_append_right _ (List.mem_append_right _ (List.mem_append_left _ (List.mem_map.mpr ⟨(x, v), hx, rfl⟩)))))
  have ok := c.facts mem
  have b := List.all_eq_true.mp hb _ hx
  cases v with
  | int i => obtain ⟨t, e⟩ := He.int_ok KX N ok; exact ⟨_, e, ⟨t, rfl⟩, rfl⟩
  | str z => obtain ⟨t, e⟩ := He.str_ok KX N ok; exact ⟨_, e, ⟨t, rfl⟩, b⟩
  | non => cases b
  | bl _ => cases b
theorem Mo.exc (c : He.SaysD m.fa (m.fn top) K) {x : Str} (hx : x ∈ m.excs) : PySem.W.excIn K (He.ga K x) He.veBase "ValueError.__new__" = true ∧ PySem.W.keepIn K (.ref (He.ga K x)) = true ∧ PySem.W.subIn K (.ref (He.ga K x)) (.type "BaseException") = some true ∧ PySem.W.typeIn K (.ref (He.ga K x)) = some (.type "type") := by
  refine He.exc_ok (c.facts ?_)
  unfold Mo.fa
  exact List.mem_append_right _ (List.mem_append_right _ (List.mem_append_right _ (List.mem_append_right _ (List.mem_append_right _ (List.mem_map.mpr ⟨x, hx, rfl⟩)))))
theorem Mo.def_ (c : He.SaysD m.fa (m.fn top) K) {x : Str} {i : Nat} (hx : (x, i) ∈ m.defs) : ∃ fd, FunD K x x (defArgs (top i)) (defBody (top i)) (defScope (top i)) [] [] (He.fAd K (x, none)) fd := by
  obtain ⟨fd, F⟩ := c.defs (d := ⟨(x, none), x, x, defArgs (top i), defBody (top i), defScope (top i), [], []⟩) (List.mem_map.mpr ⟨(x, i), hx, rfl⟩)
  exact ⟨fd, F⟩
end G
set_option maxHeartbeats 1000000
namespace G
open PySem PySem.Spec PyProof.Rows L2 LamX
structure Sp1 where
  x : Str
  g : Nat
  i : Nat
  N : List Str
  lam : Bool
def Sp1.dd (top : Nat → Stmt) (s : Sp1) : Dd := ⟨s.x, s.g, s.N, top s.i, s.lam⟩
structure Lw where
  m : Mo
  specs : List Sp1
  Pg : Prg
  rmu : List Str
  /-- the error's teller, its place, its slots -/
  er : Str
  ei : Nat
  eN : List Str
  /-- the def that names the classes -/
  ni : Nat
  nN : List Str
  /-- all errors by number -/
  xs : List Str
def Lw.G (l : Lw) : Gb := { fns := l.specs.map fun s => (s.x, s.g, ((l.Pg.lookup s.g).map (·.ar)).getD 0), cst := l.m.csts, exs := l.m.excs.zipIdx, blt := l.m.blts, rmu := l.rmu, ler := some l.er }
def lamName (x : Str) : Str := (x ++ (".<locals>." : Str)) ++ ("<lambda>" : Str)
def Lw.tf (l : Lw) : List He.Defn := (l.specs.filter (·.lam)).map fun s => (s.x, none)
def Lw.pm (l : Lw) (K : PySem.W.Frag) : Pm := ⟨K, l.tf.map fun q => ((He.cT K q).2, lamName q.1), fun c => He.ga K (l.xs.getD c ("" : Str))⟩
/-- every def compiles to what is told -/
def Lw.cpB (l : Lw) (top : Nat → Stmt) : Bool := l.specs.all fun s => match l.Pg.lookup s.g with
  | some fi => decide (cF l.G (if s.lam then cL l.G else noL) s.N (top s.i) = some fi)
  | none => false
def Lw.dfB (l : Lw) : Bool := (l.specs.all fun s => decide ((s.x, s.i) ∈ l.m.defs)) && decide ((l.er, l.ei) ∈ l.m.defs)
variable {l : Lw} {top : Nat → Stmt} {K : PySem.W.Frag} {base : Heap} {mg : Str → Option Value}
theorem Lw.mdK (hcst : l.m.csts.all (fun q => cstB q.2) = true) (hxs : ∀ (i : Nat) (x : Str), l.m.excs[i]? = some x → l.xs[i]? = some x) (c : He.SaysD l.m.fa (l.m.fn top) K) (KX : K.In base) (N : base.Ns mainGlobals mg)
    (hler : ∀ x, l.G.ler = some x → ∃ (g : Addr) (ag : Arg) (bg : List Stmt) (sg : Scope) (Ng : List Str) (fd : FuncData) (e : ErD), mg x = some (.ref g) ∧ FunD K x x ⟨[], [ag], none, [], [], none, []⟩ bg sg [] [] g fd ∧ FnScope Ng [ag.arg] sg ∧ erBody sg Ng bg = some e ∧ e.z = [] ∧ NmK (l.pm K) mg e.nn e.ae) : MdK (l.pm K) l.G mg where
  cst := fun x v h => Mo.cst KX N c hcst (PySem.mem_of_lookup h)
  blt := fun x h => Mo.free KX N c h
  exs := fun x i h => by
    have hm : (x, i) ∈ l.m.excs.zipIdx := PySem.mem_of_lookup h
    have hi : l.m.excs[i]? = some x := List.mem_zipIdx_iff_getElem?.mp hm
    have hx : x ∈ l.m.excs := List.mem_of_getElem? hi
    have e : l.xs.getD i ("" : Str) = x := by rw [List.getD_eq_getElem?_getD, hxs i x hi]; rfl
    obtain ⟨e1, e2, e3, e4⟩ := Mo.exc c hx
    have ea : (l.pm K).XA i = He.ga K x := by show He.ga K (l.xs.getD i ("" : Str)) = _; rw [e]
    rw [ea]
    exact ⟨"ValueError", "ValueError.__new__", "ValueError.__init__", He.veBase, PySem.F.excBase_ValueError, e1, Mo.glo KX N c (.inr (.inl hx)), e2, e3, e4⟩
  ler := hler
end G
set_option maxHeartbeats 1000000
namespace G
open PySem PySem.Spec PyProof.Rows L2 LamX
/-- the words, by class -/
def flagsOf (xs cls : List Str) (c : Nat) : List Bool := cls.map fun y => flag (xs.getD c ("" : Str)) y
def nmR0 (bs : List Bool) (d : NmD) : EvS :=
  seqR (asgR d.i1 (lstR fun _ S => .ok (bs.map .bl) S)) (seqR (asgR d.i2 (strR d.labels)) (seqR (retR (mthR .join (strR d.sep) (consR (comR (varR d.ig) (varR d.iw) d.is (izipLR (mthR .split (varR d.i2) (consR (strR d.sep2) nilR)) (varR d.i1)) d.own) nilR))) nopR))
theorem nmR_eq (ad : Nat) (bs : List Bool) (d : NmD) (ρ : Env) (S : Store) : nmR ad bs d (some (.exn ad) :: ρ) S = nmR0 bs d (some (.exn ad) :: ρ) S := by
  have e : isxR ad bs (some (.exn ad) :: ρ) S = .ok (bs.map .bl) S := by
    show (if ad = ad then R.ok (bs.map PV.bl) S else R.bad) = _
    rw [if_pos rfl]
  unfold nmR nmR0 seqR asgR lstR
  rw [e]
structure NmOk (l : Lw) (top : Nat → Stmt) (nn ae : Str) (cls : List Str) : Prop where
  df : (nn, l.ni) ∈ l.m.defs
  sh : ∃ (ag : Arg) (d : NmD), defArgs (top l.ni) = ⟨[], [ag], none, [], [], none, []⟩ ∧ FnScope l.nN [ag.arg] (defScope (top l.ni)) ∧ nmBody (defScope (top l.ni)) l.nN ag.arg (defBody (top l.ni)) = some d ∧ isGl (defScope (top l.ni)) "isinstance" = true ∧ l.nN[0]? = some ag.arg ∧ d.cls = cls ∧
    ∀ c, c < 13 → ∀ ad S, nmR ad (flagsOf l.xs cls c) d (some (.exn ad) :: List.replicate (l.nN.length - 1) none) S = .rt (.str (excWord c)) S
  ca : ae ∈ l.m.more
  b1 : ("isinstance" : Str) ∈ l.m.blts
  b2 : ("zip" : Str) ∈ l.m.blts
  xl : l.xs.length = 13
  own : ∀ y ∈ cls, y = ("ValueError" : Str) ∨ y ∈ l.m.excs ∨ y ∈ l.m.more
  ve : ("ValueError" : Str) ∈ l.m.blts
  nve : ∀ y, y ∈ l.m.excs ∨ y ∈ l.m.more → y ≠ ("ValueError" : Str)
variable {l : Lw} {top : Nat → Stmt} {K : PySem.W.Frag} {base : Heap} {mg : Str → Option Value}
theorem Lw.nmK {nn ae : Str} {cls : List Str} (o : NmOk l top nn ae cls) (c : He.SaysD l.m.fa (l.m.fn top) K) (hb : nmB l.xs cls ae K = true) (KX : K.In base) (N : base.Ns mainGlobals mg) : NmK (l.pm K) mg nn ae := by
  obtain ⟨ag, d, s1, s2, s3, s4, s5, s6, s7⟩ := o.sh
  have xat : ∀ cc, cc < 13 → ∃ x, x ∈ l.xs ∧ l.xs.getD cc ("" : Str) = x := fun cc hc => by
    have hl : cc < l.xs.length := by rw [o.xl]; exact hc
    exact ⟨l.xs[cc], List.getElem_mem hl, by rw [List.getD_eq_getElem?_getD, List.getElem?_eq_getElem hl]; rfl⟩
  refine ⟨?_, fun cc hc => ?_, ⟨He.ga K ae, Mo.glo KX N c (.inr (.inr o.ca)), fun cc hc => ?_⟩, Mo.free KX N c o.b1, Mo.free KX N c o.b2⟩
  · obtain ⟨fd, F⟩ := Mo.def_ c o.df
    rw [s1] at F
    refine ⟨He.ga K nn, fd, ag, defBody (top l.ni), defScope (top l.ni), l.nN, d, Mo.glo KX N c (.inl (List.mem_map.mpr ⟨_, o.df, rfl⟩)), F, s2, s3, s4, s5, fun cc hc => ⟨flagsOf l.xs cls cc, by rw [s6]; unfold flagsOf; rw [List.length_map], fun j y b e1 e2 => ?_, s7 cc hc⟩⟩
    obtain ⟨x, hx, ex⟩ := xat cc hc
    obtain ⟨_, _, k3⟩ := nmB_of hb hx
    rw [s6] at e1
    have hy := List.mem_of_getElem? e1
    unfold flagsOf at e2
    rw [List.getElem?_map, e1, ex] at e2
    cases e2
    refine ⟨clsV K y, ?_, by show PySem.W.kitOne K (.ref (He.ga K (l.xs.getD cc ("" : Str)))) _ = _; rw [ex]; exact k3 y hy⟩
    unfold clsV
    rcases o.own y hy with rfl | hh
    · rw [if_pos rfl]
      exact .inr ⟨Mo.free KX N c o.ve, by decide +kernel⟩
    · rw [if_neg (o.nve y hh)]
      exact .inl (Mo.glo KX N c (.inr hh))
  · obtain ⟨x, hx, ex⟩ := xat cc hc
    show ExcC K (He.ga K (l.xs.getD cc ("" : Str)))
    rw [ex]
    exact (nmB_of hb hx).1
  · obtain ⟨x, hx, ex⟩ := xat cc hc
    show PySem.W.exmOne K (.ref (He.ga K (l.xs.getD cc ("" : Str)))) _ = _
    rw [ex]
    exact (nmB_of hb hx).2.1
end G
set_option maxHeartbeats 1000000
namespace G
open PySem PySem.Spec PyProof.Rows L2 LamX
structure LwOk (l : Lw) (top : Nat → Stmt) (nn ae : Str) (cls : List Str) : Prop where
  cp : l.cpB top = true
  df : l.dfB = true
  cst : l.m.csts.all (fun q => cstB q.2) = true
  xs : ∀ (i : Nat) (x : Str), l.m.excs[i]? = some x → l.xs[i]? = some x
  nm : NmOk l top nn ae cls
  er : ∃ (ag : Arg) (e : ErD), defArgs (top l.ei) = ⟨[], [ag], none, [], [], none, []⟩ ∧ FnScope l.eN [ag.arg] (defScope (top l.ei)) ∧ erBody (defScope (top l.ei)) l.eN (defBody (top l.ei)) = some e ∧ e.z = [] ∧ e.nn = nn ∧ e.ae = ae
  tn : (l.tf.map (·.1)).Nodup
variable {l : Lw} {top : Nat → Stmt} {K : PySem.W.Frag} {base : Heap} {mg : Str → Option Value}
theorem Lw.allK {nn ae : Str} {cls : List Str} (o : LwOk l top nn ae cls) (c : He.SaysD l.m.fa (l.m.fn top) K) (hb : nmB l.xs cls ae K = true) (KX : K.In base) (N : base.Ns mainGlobals mg) (hTB : ∀ q ∈ l.tf, LamX.TabB base mg (He.cT K q).1 (He.cT K q).2)
    (hcode : ∀ q ∈ l.tf, ∀ fd : FuncData, (∃ oc od osl, K.lookup (He.fAd K q) = some ⟨oc, od, .func fd, osl⟩) → fd.code = .ref (He.cT K q).1) (hinj : ∀ q ∈ l.tf, ∀ r ∈ l.tf, (He.cT K q).2 = (He.cT K r).2 → q = r) : AllK (l.pm K) l.G mg base (l.specs.map (Sp1.dd top)) l.Pg where
  md := Lw.mdK o.cst o.xs c KX N fun x hx => by
    have hx : some l.er = some x := hx
    cases hx
    obtain ⟨ag, e, e1, e2, e3, e4, e5, e6⟩ := o.er
    have hd : (l.er, l.ei) ∈ l.m.defs := by
      have := o.df
      unfold Lw.dfB at this
      rw [Bool.and_eq_true] at this
      exact of_decide_eq_true this.2
    obtain ⟨fd, F⟩ := Mo.def_ c hd
    rw [e1] at F
    exact ⟨He.ga K l.er, ag, defBody (top l.ei), defScope (top l.ei), l.eN, fd, e, Mo.glo KX N c (.inl (List.mem_map.mpr ⟨_, hd, rfl⟩)), F, e2, e3, e4, by rw [e5, e6]; exact Lw.nmK o.nm c hb KX N⟩
  dk := fun d hd => by
    obtain ⟨s, hs, rfl⟩ := List.mem_map.mp hd
    have hm : (s.x, s.i) ∈ l.m.defs := by
      have := o.df
      unfold Lw.dfB at this
      rw [Bool.and_eq_true] at this
      exact of_decide_eq_true (List.all_eq_true.mp this.1 s hs)
    obtain ⟨fd, F⟩ := Mo.def_ c hm
    refine ⟨He.ga K s.x, fd, Mo.glo KX N c (.inl (List.mem_map.mpr ⟨_, hm, rfl⟩)), F, fun hl => ?_⟩
    have ht : (s.x, (none : Option Str)) ∈ l.tf := List.mem_map.mpr ⟨s, List.mem_filter.mpr ⟨hs, hl⟩, rfl⟩
    obtain ⟨oc, od, _, _, _, _, _, _, _, osl, _, lk, _⟩ := F.ex
    refine ⟨(He.cT K (s.x, none)).1, (He.cT K (s.x, none)).2, hcode _ ht fd ⟨oc, od, osl, lk⟩, hTB _ ht, List.mem_map.mpr ⟨(s.x, none), ht, rfl⟩, fun r hr hr2 => ?_⟩
    obtain ⟨q, hq, rfl⟩ := List.mem_map.mp hr
    have := hinj q hq _ ht hr2
    rw [this]
    rfl
  cp := fun d hd => by
    obtain ⟨s, hs, rfl⟩ := List.mem_map.mp hd
    have := List.all_eq_true.mp o.cp s hs
    cases e : l.Pg.lookup s.g with
    | none => rw [e] at this; cases this
    | some fi =>
      rw [e] at this
      exact ⟨fi, e, of_decide_eq_true this⟩
  fns := fun x g ar h => by
    have hm : (x, g, ar) ∈ l.specs.map fun s => (s.x, s.g, ((l.Pg.lookup s.g).map (·.ar)).getD 0) := PySem.mem_of_lookup h
    obtain ⟨s, hs, e⟩ := List.mem_map.mp hm
    cases e
    have := List.all_eq_true.mp o.cp s hs
    cases e : l.Pg.lookup s.g with
    | none => rw [e] at this; cases this
    | some fi => exact ⟨s.dd top, List.mem_map.mpr ⟨s, hs, rfl⟩, rfl, rfl, fi, by first | exact e | rfl, by simp [e]⟩
end G
set_option maxHeartbeats 1000000
namespace G
open PySem PySem.Spec PyProof.Rows L2 LamX
variable {l : Lw} {top : Nat → Stmt} {K : PySem.W.Frag} {base h : Heap} {mg : Str → Option Value} {w : World}
theorem code_tab (c : He.SaysD l.m.fa (l.m.fn top) K) {nn ae : Str} {cls : List Str} (o : LwOk l top nn ae cls) : ∀ q ∈ l.tf, ∀ fd : FuncData, (∃ oc od osl, K.lookup (He.fAd K q) = some ⟨oc, od, .func fd, osl⟩) → fd.code = .ref (He.cT K q).1 := by
  intro q hq fd ⟨oc, od, osl, lk⟩
  obtain ⟨s, hs, rfl⟩ := List.mem_map.mp hq
  have hs' := (List.mem_filter.mp hs).1
  have hm : (s.x, s.i) ∈ l.m.defs := by
    have := o.df
    unfold Lw.dfB at this
    rw [Bool.and_eq_true] at this
    exact of_decide_eq_true (List.all_eq_true.mp this.1 s hs')
  obtain ⟨fd', F⟩ := Mo.def_ c hm
  obtain ⟨oc', od', dV, kV, doc, pm, an, cdv, ct, osl', rfl, lk', hcd, _⟩ := F.ex
  rw [lk] at lk'
  cases lk'
  cases cdv with
  | ref a =>
    show Value.ref a = .ref (He.codeOf K (s.x, none))
    rw [He.codeOf_eq lk rfl]
  | _ => exact absurd hcd (by simp [PySem.W.codeIn])
/-- what is looked at in the head's heap: the errors' classes, and that the tables of two lambda-holders are two -/
def nmT (tf : List He.Defn) (xs cls : List Str) (ca : Str) (K : PySem.W.Frag) : Bool := nmB xs cls ca K && tf.all fun q => tf.all fun r => decide (q = r) || decide ((He.cT K q).2 ≠ (He.cT K r).2)
theorem nmT_inj {tf : List He.Defn} {xs cls : List Str} {ca : Str} (h : nmT tf xs cls ca K = true) : ∀ q ∈ tf, ∀ r ∈ tf, (He.cT K q).2 = (He.cT K r).2 → q = r := by
  intro q hq r hr e
  unfold nmT at h
  rw [Bool.and_eq_true] at h
  have z := List.all_eq_true.mp (List.all_eq_true.mp h.2 q hq) r hr
  rw [Bool.or_eq_true] at z
  rcases z with z | z
  · exact of_decide_eq_true z
  · exact absurd e (of_decide_eq_true z)
theorem nmT_nm {tf : List He.Defn} {xs cls : List Str} {ca : Str} (h : nmT tf xs cls ca K = true) : nmB xs cls ca K = true := by
  unfold nmT at h
  rw [Bool.and_eq_true] at h
  exact h.1
/-- a law, from its head's facts and its maths -/
theorem law_of {row : PySem.W.OpenLaw} {nn ae : Str} {cls : List Str} {n mm : Nat} {x : Str} {s : Sp1} {fi : FI} {fa : Addr} (o : LwOk l top nn ae cls) (S : He.SaysX l.m.fa (l.m.fn top) [] l.tf (nmT l.tf l.xs cls ae) w h K) (KX : K.In h) (N : h.Ns mainGlobals mg) (hmg : mg s.x = some (.ref fa)) (hs : s ∈ l.specs) (hg : l.Pg.lookup s.g = some fi) (har : fi.ar = 1)
    (hps : (defArgs (top s.i)).args.map (·.arg) = [x]) (hpl : ∃ as, defArgs (top s.i) = ⟨[], as, none, [], [], none, []⟩)
    (hrun : ∀ ns : List Int, ns.length ≤ n → (∀ z ∈ ns, Builtin.Int.intBits z ≤ 1048576) → ∃ S', run l.Pg mm s.g [.scr ns] [] = .ok (.bl true) S') : LamX.LawAtS row w K (L2N.CX row.prog w) (mm + 2) n x mg fa h := by
  have c := S.t.d
  have hm : (s.x, s.i) ∈ l.m.defs := by
    have := o.df
    unfold Lw.dfB at this
    rw [Bool.and_eq_true] at this
    exact of_decide_eq_true (List.all_eq_true.mp this.1 s hs)
  obtain ⟨fd, F⟩ := Mo.def_ c hm
  have ef : fa = He.ga K s.x := by
    have := Mo.glo KX N c (.inl (List.mem_map.mpr ⟨_, hm, rfl⟩))
    rw [hmg] at this
    exact Value.ref.inj (Option.some.inj this)
  subst ef
  refine law_end (p := l.pm K) (G := l.G) (ds := l.specs.map (Sp1.dd top)) (Pg := l.Pg) (m := mm) (cs := l.tf.map (He.cT K)) (d := s.dd top) (fd := fd) (fi := fi) (List.mem_map.mpr ⟨s, hs, rfl⟩) hg har hps hmg F hpl (fun q hq => ?_) (fun q hq => ?_) (fun q hq => ?_) (fun q hq => ?_) (fun base hK hN hT => ?_) hrun
  · obtain ⟨r, hr, rfl⟩ := List.mem_map.mp hq
    exact S.empty r hr
  · obtain ⟨r, hr, rfl⟩ := List.mem_map.mp hq
    exact S.out r hr
  · obtain ⟨r, hr, rfl⟩ := List.mem_map.mp hq
    exact PySem.W.codeHd_of_K KX (S.hd r hr)
  · obtain ⟨r, hr, rfl⟩ := List.mem_map.mp hq
    exact ⟨(He.cT K r).1, List.mem_map.mpr ⟨r, hr, rfl⟩⟩
  · exact Lw.allK o c (nmT_nm S.more) hK hN (fun q hq => hT _ (List.mem_map.mpr ⟨q, hq, rfl⟩)) (code_tab c o) (nmT_inj S.more)
end G
namespace G
open Ex St B2 Pr Kd Ct
namespace M
def f0 : FI := { ar := 3, nl := 3, body := .seq (.ret (.and (.pri (.isi (.int)) (.cons (.var 0) (.nil))) (.and (.not (.pri (.isi (.bool)) (.cons (.var 0) (.nil)))) (.chn (.le) (.le) (.var 1) (.var 0) (.var 2))))) (.nop) }
def f1 : FI := { ar := 4, nl := 5, body := .seq (.ifs (.or (.not (.pri (.isi (.str)) (.cons (.var 1) (.nil)))) (.not (.chn (.le) (.le) (.var 2) (.pri (.len) (.cons (.var 1) (.nil))) (.var 3)))) (.seq (.ret (.cst (.bl false))) (.nop)) (.nop)) (.seq (.ret (.bin (.eq) (.com (.var 4) [4] (.iseq (.var 1)) (.bin (.notin) (.var 4) (.var 0)) [4]) (.lst (.nil)))) (.nop)) }
def f2 : FI := { ar := 1, nl := 7, body := .seq (.ifs (.or (.not (.pri (.isi (.tuple)) (.cons (.var 0) (.nil)))) (.or (.bin (.ne) (.pri (.len) (.cons (.var 0) (.nil))) (.cst (.int 3))) (.not (.cal 0 (.cons (.bin (.idx) (.var 0) (.cst (.int 0))) (.cons (.cst (.int 2)) (.cons (.cst (.int 5)) (.nil)))))))) (.seq (.ret (.cst (.bl false))) (.nop)) (.nop)) (.seq (.unp [2, 3, 4] (.var 0)) (.seq (.asg 1 (.slc (.cst (.str [97, 98, 99, 100, 101])) (.nil) (.cons (.var 2) (.nil)) false)) (.seq (.ifs (.or (.not (.pri (.isi (.tuple)) (.cons (.var 3) (.nil)))) (.bin (.gt) (.bin (.add) (.var 2) (.pri (.len) (.cons (.var 3) (.nil)))) (.cst (.int 6)))) (.seq (.ret (.cst (.bl false))) (.nop)) (.nop)) (.seq (.ifs (.bin (.ne) (.com (.var 5) [5] (.iseq (.var 3)) (.not (.cal 1 (.cons (.var 1) (.cons (.var 5) (.cons (.cst (.int 2)) (.cons (.cst (.int 2)) (.nil))))))) [5]) (.lst (.nil))) (.seq (.ret (.cst (.bl false))) (.nop)) (.nop)) (.seq (.ifs (.bin (.ne) (.com (.var 6) [6] (.irng (.bin (.sub) (.pri (.len) (.cons (.var 3) (.nil))) (.cst (.int 1)))) (.bin (.ge) (.bin (.idx) (.var 3) (.var 6)) (.bin (.idx) (.var 3) (.bin (.add) (.var 6) (.cst (.int 1))))) [6]) (.lst (.nil))) (.seq (.ret (.cst (.bl false))) (.nop)) (.nop)) (.seq (.ret (.cal 1 (.cons (.var 1) (.cons (.var 4) (.cons (.cst (.int 0)) (.cons (.cst (.int 1)) (.nil))))))) (.nop))))))) }
def f3 : FI := { ar := 1, nl := 1, body := .seq (.ifs (.not (.cal 2 (.cons (.var 0) (.nil)))) (.seq (.rse 0) (.nop)) (.nop)) (.nop) }
def f4 : FI := { ar := 1, nl := 1, body := .seq (.ret (.bin (.add) (.pri (.list) (.cons (.slc (.cst (.str [97, 98, 99, 100, 101])) (.nil) (.cons (.bin (.idx) (.var 0) (.cst (.int 0))) (.nil)) false) (.nil))) (.pri (.list) (.cons (.bin (.idx) (.var 0) (.cst (.int 1))) (.nil))))) (.nop) }
def f5 : FI := { ar := 2, nl := 2, body := .seq (.ret (.cal 1 (.cons (.slc (.cst (.str [97, 98, 99, 100, 101])) (.nil) (.cons (.bin (.idx) (.var 0) (.cst (.int 0))) (.nil)) false) (.cons (.var 1) (.cons (.cst (.int 0)) (.cons (.cst (.int 8)) (.nil))))))) (.nop) }
def f6 : FI := { ar := 2, nl := 2, body := .seq (.ifs (.not (.cal 5 (.cons (.var 0) (.cons (.var 1) (.nil))))) (.seq (.rse 2) (.nop)) (.nop)) (.nop) }
def f7 : FI := { ar := 2, nl := 3, body := .seq (.ifs (.or (.not (.pri (.isi (.tuple)) (.cons (.var 1) (.nil)))) (.bin (.ne) (.com (.var 2) [2] (.iseq (.var 1)) (.not (.pri (.isi (.str)) (.cons (.var 2) (.nil)))) [2]) (.lst (.nil)))) (.seq (.ret (.cst (.bl false))) (.nop)) (.nop)) (.seq (.ret (.bin (.eq) (.pri (.sorted) (.cons (.var 1) (.nil))) (.pri (.sorted) (.cons (.cal 4 (.cons (.var 0) (.nil))) (.nil))))) (.nop)) }
def f8 : FI := { ar := 2, nl := 2, body := .seq (.exp (.cal 3 (.cons (.var 0) (.nil)))) (.seq (.ret (.cal 5 (.cons (.var 0) (.cons (.var 1) (.nil))))) (.nop)) }
def f9 : FI := { ar := 2, nl := 2, body := .seq (.exp (.cal 3 (.cons (.var 0) (.nil)))) (.seq (.ret (.cal 7 (.cons (.var 0) (.cons (.var 1) (.nil))))) (.nop)) }
def f10 : FI := { ar := 1, nl := 1, body := .seq (.exp (.cal 3 (.cons (.var 0) (.nil)))) (.seq (.ret (.cal 4 (.cons (.var 0) (.nil)))) (.nop)) }
def f11 : FI := { ar := 2, nl := 5, body := .seq (.unp [2, 3] (.tup (.cons (.tup (.nil)) (.cons (.cst (.int 0)) (.nil))))) (.seq (.whl (.bin (.lt) (.var 3) (.pri (.len) (.cons (.var 1) (.nil)))) (.seq (.asg 4 (.ite (.bin (.inn) (.slc (.var 1) (.cons (.var 3) (.nil)) (.cons (.bin (.add) (.var 3) (.cst (.int 2))) (.nil)) false) (.bin (.idx) (.var 0) (.cst (.int 1)))) (.cst (.int 2)) (.cst (.int 1)))) (.seq (.par [2, 3] (.cons (.bin (.add) (.var 2) (.tup (.cons (.slc (.var 1) (.cons (.var 3) (.nil)) (.cons (.bin (.add) (.var 3) (.var 4)) (.nil)) false) (.nil)))) (.cons (.bin (.add) (.var 3) (.var 4)) (.nil)))) (.nop)))) (.seq (.ret (.var 2)) (.nop))) }
def f12 : FI := { ar := 2, nl := 2, body := .seq (.exp (.cal 3 (.cons (.var 0) (.nil)))) (.seq (.exp (.cal 6 (.cons (.var 0) (.cons (.var 1) (.nil))))) (.seq (.ret (.cal 11 (.cons (.var 0) (.cons (.var 1) (.nil))))) (.nop))) }
def f13 : FI := { ar := 2, nl := 3, body := .seq (.asg 2 (.bin (.add) (.bin (.mul) (.cst (.int 7919)) (.var 1)) (.cst (.int 43)))) (.seq (.ifs (.bin (.lt) (.var 1) (.pri (.len) (.cons (.var 0) (.nil)))) (.seq (.asg 2 (.pri (.abs) (.cons (.pri (.int) (.cons (.bin (.idx) (.var 0) (.var 1)) (.nil))) (.nil)))) (.nop)) (.nop)) (.seq (.ret (.mut (.lst (.cons (.ite (.bin (.ge) (.var 2) (.bin (.pow) (.cst (.int 10)) (.cst (.int 18)))) (.var 2) (.cst (.int 0))) (.cons (.bin (.add) (.bin (.mod) (.pri (.int) (.cons (.bin (.add) (.bin (.add) (.bin (.mul) (.var 2) (.cst (.int 131071))) (.bin (.mul) (.cst (.int 8191)) (.var 1))) (.cst (.int 5))) (.nil))) (.cst (.int 2147483629))) (.cst (.int 1))) (.nil)))))) (.nop))) }
def f14 : FI := { ar := 2, nl := 4, body := .seq (.ifs (.bin (.gt) (.bin (.idx) (.var 0) (.cst (.int 0))) (.cst (.int 0))) (.seq (.asg 3 (.bin (.mod) (.pri (.int) (.cons (.bin (.idx) (.var 0) (.cst (.int 0))) (.nil))) (.var 1))) (.seq (.sti (.var 0) (.cst (.int 0)) (.bin (.fdiv) (.bin (.idx) (.var 0) (.cst (.int 0))) (.var 1))) (.seq (.ret (.var 3)) (.nop)))) (.nop)) (.seq (.sti (.var 0) (.cst (.int 1)) (.bin (.mod) (.pri (.int) (.cons (.bin (.add) (.bin (.mul) (.bin (.idx) (.var 0) (.cst (.int 1))) (.cst (.int 39373))) (.cst (.int 101))) (.nil))) (.cst (.int 2147483629)))) (.seq (.asg 2 (.bin (.mod) (.pri (.int) (.cons (.bin (.mul) (.bin (.idx) (.var 0) (.cst (.int 1))) (.bin (.add) (.bin (.fdiv) (.bin (.idx) (.var 0) (.cst (.int 1))) (.cst (.int 5))) (.cst (.int 9)))) (.nil))) (.cst (.int 2147483587)))) (.seq (.ret (.bin (.mod) (.pri (.int) (.cons (.bin (.fdiv) (.var 2) (.cst (.int 32))) (.nil))) (.var 1))) (.nop)))) }
def f15 : FI := { ar := 2, nl := 2, body := .seq (.ret (.bin (.idx) (.var 1) (.cal 14 (.cons (.var 0) (.cons (.pri (.len) (.cons (.var 1) (.nil))) (.nil)))))) (.nop) }
def f16 : FI := { ar := 3, nl := 3, body := .seq (.ret (.and (.pri (.isi (.int)) (.cons (.var 0) (.nil))) (.and (.not (.pri (.isi (.bool)) (.cons (.var 0) (.nil)))) (.chn (.le) (.le) (.var 1) (.var 0) (.var 2))))) (.nop) }
def f17 : FI := { ar := 2, nl := 2, body := .seq (.ret (.and (.pri (.isi (.bool)) (.cons (.var 0) (.nil))) (.bin (.eq) (.var 0) (.var 1)))) (.nop) }
def f18 : FI := { ar := 4, nl := 5, body := .seq (.ifs (.or (.not (.pri (.isi (.str)) (.cons (.var 1) (.nil)))) (.or (.bin (.lt) (.pri (.len) (.cons (.var 1) (.nil))) (.var 2)) (.bin (.gt) (.pri (.len) (.cons (.var 1) (.nil))) (.var 3)))) (.seq (.ret (.cst (.bl false))) (.nop)) (.nop)) (.seq (.ret (.bin (.eq) (.com (.var 4) [4] (.iseq (.var 1)) (.bin (.notin) (.var 4) (.var 0)) [4]) (.lst (.nil)))) (.nop)) }
def f19 : FI := { ar := 1, nl := 4, body := .seq (.ifs (.or (.not (.pri (.isi (.tuple)) (.cons (.var 0) (.nil)))) (.or (.bin (.ne) (.pri (.len) (.cons (.var 0) (.nil))) (.cst (.int 3))) (.not (.cal 16 (.cons (.bin (.idx) (.var 0) (.cst (.int 0))) (.cons (.cst (.int 2)) (.cons (.cst (.int 5)) (.nil)))))))) (.seq (.ret (.cst (.bl false))) (.nop)) (.nop)) (.seq (.unp [1, 2] (.tup (.cons (.slc (.cst (.str [97, 98, 99, 100, 101])) (.nil) (.cons (.bin (.idx) (.var 0) (.cst (.int 0))) (.nil)) false) (.cons (.bin (.idx) (.var 0) (.cst (.int 1))) (.nil))))) (.seq (.ifs (.or (.not (.pri (.isi (.tuple)) (.cons (.var 2) (.nil)))) (.or (.bin (.gt) (.bin (.add) (.pri (.len) (.cons (.var 1) (.nil))) (.pri (.len) (.cons (.var 2) (.nil)))) (.cst (.int 6))) (.not (.cal 18 (.cons (.var 1) (.cons (.bin (.idx) (.var 0) (.cst (.int 2))) (.cons (.cst (.int 0)) (.cons (.cst (.int 1)) (.nil))))))))) (.seq (.ret (.cst (.bl false))) (.nop)) (.nop)) (.seq (.ifs (.bin (.ne) (.com (.var 3) [3] (.iseq (.var 2)) (.not (.cal 18 (.cons (.var 1) (.cons (.var 3) (.cons (.cst (.int 2)) (.cons (.cst (.int 2)) (.nil))))))) [3]) (.lst (.nil))) (.seq (.ret (.cst (.bl false))) (.nop)) (.nop)) (.seq (.ret (.bin (.eq) (.pri (.list) (.cons (.var 2) (.nil))) (.pri (.sortset) (.cons (.var 2) (.nil))))) (.nop))))) }
def f20 : FI := { ar := 2, nl := 2, body := .seq (.ret (.cal 18 (.cons (.slc (.cst (.str [97, 98, 99, 100, 101])) (.nil) (.cons (.bin (.idx) (.var 0) (.cst (.int 0))) (.nil)) false) (.cons (.var 1) (.cons (.cst (.int 0)) (.cons (.cst (.int 8)) (.nil))))))) (.nop) }
def f21 : FI := { ar := 1, nl := 1, body := .seq (.ret (.bin (.add) (.pri (.list) (.cons (.slc (.cst (.str [97, 98, 99, 100, 101])) (.nil) (.cons (.bin (.idx) (.var 0) (.cst (.int 0))) (.nil)) false) (.nil))) (.pri (.list) (.cons (.bin (.idx) (.var 0) (.cst (.int 1))) (.nil))))) (.nop) }
def f22 : FI := { ar := 1, nl := 7, body := .seq (.asg 1 (.lst (.cons (.tup (.nil)) (.nil)))) (.seq (.asg 2 (.pri (.sorted) (.cons (.cal 21 (.cons (.var 0) (.nil))) (.nil)))) (.seq (.for [3] (.irng (.pri (.len) (.cons (.var 2) (.nil)))) (.seq (.asg 4 (.lst (.nil))) (.seq (.for [5] (.iseq (.var 1)) (.seq (.asg 4 (.bin (.add) (.var 4) (.com (.bin (.add) (.var 5) (.tup (.cons (.var 6) (.nil)))) [6] (.iseq (.var 2)) (.bin (.notin) (.var 6) (.var 5)) [6]))) (.nop))) (.seq (.asg 1 (.var 4)) (.nop))))) (.seq (.ret (.var 1)) (.nop)))) }
def f23 : FI := { ar := 2, nl := 2, body := .seq (.ifs (.bin (.eq) (.var 1) (.cst (.str []))) (.seq (.ret (.lst (.nil))) (.nop)) (.nop)) (.seq (.ifs (.bin (.inn) (.slc (.var 1) (.nil) (.cons (.cst (.int 2)) (.nil)) false) (.bin (.idx) (.var 0) (.cst (.int 1)))) (.seq (.ret (.bin (.add) (.lst (.cons (.slc (.var 1) (.nil) (.cons (.cst (.int 2)) (.nil)) false) (.nil))) (.cal 23 (.cons (.var 0) (.cons (.slc (.var 1) (.cons (.cst (.int 2)) (.nil)) (.nil) false) (.nil)))))) (.nop)) (.nop)) (.seq (.ret (.bin (.add) (.lst (.cons (.bin (.idx) (.var 1) (.cst (.int 0))) (.nil))) (.cal 23 (.cons (.var 0) (.cons (.slc (.var 1) (.cons (.cst (.int 1)) (.nil)) (.nil) false) (.nil)))))) (.nop))) }
def f24 : FI := { ar := 1, nl := 4, body := .seq (.asg 1 (.cal 15 (.cons (.var 0) (.cons (.lst (.cons (.cst (.int 2)) (.cons (.cst (.int 3)) (.cons (.cst (.int 3)) (.cons (.cst (.int 3)) (.cons (.cst (.int 4)) (.nil))))))) (.nil))))) (.seq (.par [2, 3] (.cons (.slc (.cst (.str [97, 98, 99, 100])) (.nil) (.cons (.var 1) (.nil)) false) (.cons (.tup (.nil)) (.nil)))) (.seq (.ifs (.bin (.eq) (.cal 14 (.cons (.var 0) (.cons (.cst (.int 2)) (.nil)))) (.cst (.int 0))) (.seq (.asg 3 (.tup (.cons (.bin (.add) (.cal 15 (.cons (.var 0) (.cons (.pri (.list) (.cons (.var 2) (.nil))) (.nil)))) (.cal 15 (.cons (.var 0) (.cons (.pri (.list) (.cons (.var 2) (.nil))) (.nil))))) (.nil)))) (.nop)) (.nop)) (.seq (.ret (.tup (.cons (.var 1) (.cons (.var 3) (.cons (.cal 15 (.cons (.var 0) (.cons (.lst (.cons (.cst (.str [])) (.cons (.cst (.str [])) (.cons (.cal 15 (.cons (.var 0) (.cons (.pri (.list) (.cons (.var 2) (.nil))) (.nil)))) (.nil))))) (.nil)))) (.nil)))))) (.nop)))) }
def f25 : FI := { ar := 3, nl := 5, body := .seq (.asg 3 (.cst (.str []))) (.seq (.for [4] (.irng (.cal 14 (.cons (.var 0) (.cons (.bin (.add) (.var 2) (.cst (.int 1))) (.nil))))) (.seq (.asg 3 (.bin (.add) (.var 3) (.cal 15 (.cons (.var 0) (.cons (.pri (.list) (.cons (.slc (.cst (.str [97, 98, 99, 100, 101])) (.nil) (.cons (.bin (.idx) (.var 1) (.cst (.int 0))) (.nil)) false) (.nil))) (.nil)))))) (.nop))) (.seq (.ret (.var 3)) (.nop))) }
def f28 : FI := { ar := 2, nl := 5, body := .seq (.asg 2 (.lst (.cons (.cst (.non)) (.cons (.cst (.bl true)) (.cons (.cst (.bl false)) (.cons (.cst (.int 0)) (.cons (.cst (.int 1)) (.cons (.cst (.int 2)) (.cons (.cst (.int 3)) (.cons (.pri (.neg) (.cons (.cst (.int 1)) (.nil))) (.cons (.bin (.pow) (.cst (.int 10)) (.cst (.int 31))) (.cons (.cst (.str [])) (.cons (.cst (.str [97])) (.cons (.cst (.str [97, 98])) (.cons (.cst (.str [99, 97])) (.cons (.cst (.str [122])) (.cons (.cst (.str [97, 104, 101, 97, 100])) (.cons (.cst (.str [115, 111, 114, 116, 101, 100])) (.cons (.cst (.str [102, 105, 108, 101])) (.cons (.tup (.nil)) (.cons (.lst (.nil)) (.nil)))))))))))))))))))))) (.seq (.asg 2 (.bin (.add) (.var 2) (.lst (.cons (.tup (.cons (.cst (.str [97])) (.cons (.cst (.str [98])) (.nil)))) (.cons (.tup (.cons (.cst (.str [97, 104, 101, 97, 100])) (.cons (.cst (.str [97])) (.cons (.cst (.str [98])) (.nil))))) (.cons (.tup (.cons (.cst (.str [116, 117, 114, 110])) (.cons (.cst (.int 0)) (.nil)))) (.cons (.tup (.cons (.cst (.int 3)) (.cons (.tup (.nil)) (.cons (.cst (.str [])) (.nil))))) (.cons (.tup (.cons (.cst (.str [97])) (.cons (.cst (.str [98])) (.cons (.cst (.bl true)) (.cons (.cst (.bl false)) (.nil)))))) (.nil))))))))) (.seq (.ifs (.or (.bin (.eq) (.var 1) (.cst (.int 0))) (.bin (.lt) (.cal 14 (.cons (.var 0) (.cons (.cst (.int 9)) (.nil)))) (.cst (.int 6)))) (.seq (.ret (.cal 15 (.cons (.var 0) (.cons (.var 2) (.nil))))) (.nop)) (.nop)) (.seq (.asg 3 (.com (.cal 28 (.cons (.var 0) (.cons (.bin (.sub) (.var 1) (.cst (.int 1))) (.nil)))) [4] (.irng (.cal 14 (.cons (.var 0) (.cons (.cst (.int 4)) (.nil))))) (.cst (.bl true)) [4])) (.seq (.ret (.ite (.bin (.eq) (.cal 14 (.cons (.var 0) (.cons (.cst (.int 3)) (.nil)))) (.cst (.int 0))) (.var 3) (.pri (.tuple) (.cons (.var 3) (.nil))))) (.nop))))) }
def f29 : FI := { ar := 2, nl := 5, body := .seq (.ifs (.or (.not (.pri (.isi (.tuple)) (.cons (.var 1) (.nil)))) (.or (.bin (.eq) (.var 1) (.tup (.nil))) (.bin (.eq) (.cal 14 (.cons (.var 0) (.cons (.cst (.int 7)) (.nil)))) (.cst (.int 0))))) (.seq (.asg 2 (.lst (.cons (.cal 28 (.cons (.var 0) (.cons (.cst (.int 1)) (.nil)))) (.cons (.cal 28 (.cons (.var 0) (.cons (.cst (.int 1)) (.nil)))) (.nil))))) (.seq (.ifs (.pri (.isi (.str)) (.cons (.var 1) (.nil))) (.seq (.asg 2 (.bin (.add) (.var 2) (.lst (.cons (.cst (.str [97])) (.cons (.bin (.add) (.var 1) (.cst (.str [97]))) (.cons (.slc (.var 1) (.nil) (.cons (.pri (.neg) (.cons (.cst (.int 1)) (.nil))) (.nil)) false) (.cons (.bin (.add) (.var 1) (.cst (.str [101]))) (.cons (.cst (.str [98, 101, 116, 119, 101, 101, 110])) (.cons (.cst (.str [105, 102])) (.cons (.mth (.upper) (.var 1) (.nil)) (.cons (.cst (.str [97, 97, 97, 97, 97, 97, 97, 97, 97])) (.nil)))))))))))) (.nop)) (.seq (.ifs (.pri (.isi (.int)) (.cons (.var 1) (.nil))) (.seq (.asg 2 (.bin (.add) (.var 2) (.lst (.cons (.bin (.add) (.var 1) (.cst (.int 1))) (.cons (.bin (.sub) (.var 1) (.cst (.int 1))) (.cons (.not (.var 1)) (.cons (.pri (.str) (.cons (.var 1) (.nil))) (.cons (.cst (.int 7)) (.nil))))))))) (.nop)) (.nop)) (.nop))) (.seq (.ret (.cal 15 (.cons (.var 0) (.cons (.var 2) (.nil))))) (.nop)))) (.nop)) (.seq (.par [3, 4] (.cons (.cal 14 (.cons (.var 0) (.cons (.pri (.len) (.cons (.var 1) (.nil))) (.nil)))) (.cons (.cal 14 (.cons (.var 0) (.cons (.cst (.int 9)) (.nil)))) (.nil)))) (.seq (.ifs (.bin (.eq) (.var 4) (.cst (.int 0))) (.seq (.ret (.bin (.add) (.slc (.var 1) (.nil) (.cons (.var 3) (.nil)) false) (.slc (.var 1) (.cons (.bin (.add) (.var 3) (.cst (.int 1))) (.nil)) (.nil) false))) (.nop)) (.nop)) (.seq (.ifs (.bin (.eq) (.var 4) (.cst (.int 1))) (.seq (.ret (.bin (.add) (.slc (.var 1) (.nil) (.cons (.bin (.add) (.var 3) (.cst (.int 1))) (.nil)) false) (.slc (.var 1) (.cons (.var 3) (.nil)) (.nil) false))) (.nop)) (.nop)) (.seq (.ifs (.bin (.eq) (.var 4) (.cst (.int 2))) (.seq (.ret (.slc (.var 1) (.nil) (.nil) true)) (.nop)) (.nop)) (.seq (.ifs (.bin (.eq) (.var 4) (.cst (.int 3))) (.seq (.ret (.pri (.list) (.cons (.var 1) (.nil)))) (.nop)) (.nop)) (.seq (.ret (.bin (.add) (.bin (.add) (.slc (.var 1) (.nil) (.cons (.var 3) (.nil)) false) (.tup (.cons (.cal 29 (.cons (.var 0) (.cons (.bin (.idx) (.var 1) (.var 3)) (.nil)))) (.nil)))) (.slc (.var 1) (.cons (.bin (.add) (.var 3) (.cst (.int 1))) (.nil)) (.nil) false))) (.nop))))))) }
def f30 : FI := { ar := 2, nl := 6, body := .seq (.asg 2 (.cal 19 (.cons (.var 1) (.nil)))) (.seq (.ifs (.or (.not (.cal 17 (.cons (.cal 2 (.cons (.var 1) (.nil))) (.cons (.var 2) (.nil))))) (.not (.cal 17 (.cons (.cal 8 (.cons (.var 0) (.cons (.var 1) (.nil)))) (.cons (.cal 20 (.cons (.var 0) (.cons (.var 1) (.nil)))) (.nil)))))) (.seq (.ret (.cst (.bl false))) (.nop)) (.nop)) (.seq (.asg 3 (.and (.pri (.isi (.tuple)) (.cons (.var 1) (.nil))) (.bin (.eq) (.com (.var 5) [5] (.iseq (.var 1)) (.not (.pri (.isi (.str)) (.cons (.var 5) (.nil)))) [5]) (.lst (.nil))))) (.seq (.asg 4 (.and (.var 3) (.bin (.eq) (.pri (.sorted) (.cons (.pri (.list) (.cons (.var 1) (.nil))) (.nil))) (.pri (.sorted) (.cons (.cal 21 (.cons (.var 0) (.nil))) (.nil)))))) (.seq (.ifs (.not (.cal 17 (.cons (.cal 9 (.cons (.var 0) (.cons (.var 1) (.nil)))) (.cons (.var 4) (.nil))))) (.seq (.ret (.cst (.bl false))) (.nop)) (.nop)) (.seq (.ifs (.var 2) (.seq (.ret (.bin (.eq) (.cal 10 (.cons (.var 1) (.nil))) (.cal 21 (.cons (.var 1) (.nil))))) (.nop)) (.nop)) (.seq (.ret (.bin (.eq) (.lam (.cal 10 (.cons (.var 1) (.nil)))) (.cst (.str [109, 97, 110, 110, 101, 114, 32, 118, 97, 108, 117, 101])))) (.nop))))))) }
def f31 : FI := { ar := 1, nl := 11, body := .seq (.for [1] (.irng (.pri (.max2) (.cons (.cst (.int 5)) (.cons (.pri (.min2) (.cons (.cst (.int 12)) (.cons (.pri (.len) (.cons (.var 0) (.nil))) (.nil)))) (.nil))))) (.seq (.asg 3 (.cal 13 (.cons (.var 0) (.cons (.var 1) (.nil))))) (.seq (.asg 4 (.cal 24 (.cons (.var 3) (.nil)))) (.seq (.par [7, 8] (.cons (.cal 25 (.cons (.var 3) (.cons (.var 4) (.cons (.cst (.int 8)) (.nil))))) (.cons (.cal 15 (.cons (.var 3) (.cons (.cal 22 (.cons (.var 4) (.nil))) (.nil)))) (.nil)))) (.seq (.ifs (.bin (.ne) (.cal 12 (.cons (.var 4) (.cons (.var 7) (.nil)))) (.pri (.tuple) (.cons (.cal 23 (.cons (.var 4) (.cons (.var 7) (.nil)))) (.nil)))) (.seq (.ret (.cst (.bl false))) (.nop)) (.nop)) (.seq (.for [5] (.iseq (.lst (.cons (.var 4) (.cons (.var 7) (.cons (.var 8) (.cons (.cal 24 (.cons (.var 3) (.nil))) (.nil))))))) (.seq (.asg 9 (.var 5)) (.seq (.ifs (.not (.cal 30 (.cons (.var 4) (.cons (.var 5) (.nil))))) (.seq (.ret (.cst (.bl false))) (.nop)) (.nop)) (.seq (.for [10] (.irng (.cst (.int 9))) (.seq (.asg 9 (.cal 29 (.cons (.var 3) (.cons (.ite (.bin (.eq) (.bin (.mod) (.var 10) (.cst (.int 3))) (.cst (.int 0))) (.var 5) (.var 9)) (.nil))))) (.seq (.ifs (.not (.cal 30 (.cons (.var 4) (.cons (.var 9) (.nil))))) (.seq (.ret (.cst (.bl false))) (.nop)) (.nop)) (.nop)))) (.nop))))) (.seq (.for [6] (.iseq (.lst (.cons (.cst (.non)) (.cons (.bin (.mul) (.cst (.str [100])) (.cst (.int 9))) (.cons (.cst (.str [98, 97, 10])) (.cons (.cst (.int 5)) (.cons (.ite (.bin (.lt) (.bin (.idx) (.var 4) (.cst (.int 0))) (.cst (.int 5))) (.cst (.str [101])) (.cst (.str [102]))) (.nil)))))))) (.seq (.ifs (.bin (.ne) (.lam (.cal 12 (.cons (.var 4) (.cons (.var 6) (.nil))))) (.cst (.str [119, 111, 114, 100, 32, 118, 97, 108, 117, 101]))) (.seq (.ret (.cst (.bl false))) (.nop)) (.nop)) (.nop))) (.nop)))))))) (.seq (.asg 2 (.lst (.cons (.tup (.cons (.cst (.int 1)) (.cons (.tup (.nil)) (.cons (.cst (.str [])) (.nil))))) (.cons (.tup (.cons (.cst (.int 5)) (.cons (.tup (.cons (.cst (.str [97, 98])) (.nil))) (.cons (.cst (.str [])) (.nil))))) (.cons (.tup (.cons (.cst (.int 5)) (.cons (.tup (.cons (.cst (.str [97, 98])) (.cons (.cst (.str [98, 97])) (.nil)))) (.cons (.cst (.str [])) (.nil))))) (.cons (.tup (.cons (.cst (.int 4)) (.cons (.tup (.cons (.cst (.str [97, 98])) (.cons (.cst (.str [98, 97])) (.nil)))) (.cons (.cst (.str [100])) (.nil))))) (.cons (.tup (.cons (.cst (.int 3)) (.cons (.tup (.cons (.cst (.str [98, 97])) (.cons (.cst (.str [97, 98])) (.nil)))) (.cons (.cst (.str [])) (.nil))))) (.nil)))))))) (.seq (.asg 2 (.bin (.add) (.var 2) (.lst (.cons (.tup (.cons (.cst (.int 3)) (.cons (.tup (.cons (.cst (.str [97, 98])) (.cons (.cst (.str [97, 98])) (.nil)))) (.cons (.cst (.str [])) (.nil))))) (.cons (.tup (.cons (.cst (.int 2)) (.cons (.tup (.cons (.cst (.str [97, 97])) (.cons (.cst (.str [97, 98])) (.cons (.cst (.str [98, 97])) (.cons (.cst (.str [98, 98])) (.nil)))))) (.cons (.cst (.str [98])) (.nil))))) (.cons (.tup (.cons (.cst (.int 2)) (.cons (.tup (.cons (.cst (.str [97, 99])) (.nil))) (.cons (.cst (.str [])) (.nil))))) (.cons (.tup (.cons (.cst (.int 3)) (.cons (.tup (.cons (.cst (.str [97, 98, 99])) (.nil))) (.cons (.cst (.str [])) (.nil))))) (.nil)))))))) (.seq (.asg 2 (.bin (.add) (.var 2) (.lst (.cons (.tup (.cons (.cst (.int 3)) (.cons (.tup (.nil)) (.cons (.cst (.str [100])) (.nil))))) (.cons (.tup (.cons (.cst (.int 3)) (.cons (.tup (.nil)) (.cons (.cst (.non)) (.nil))))) (.cons (.tup (.cons (.cst (.int 3)) (.cons (.lst (.nil)) (.cons (.cst (.str [])) (.nil))))) (.cons (.tup (.cons (.cst (.bl true)) (.cons (.tup (.nil)) (.cons (.cst (.str [])) (.nil))))) (.cons (.tup (.cons (.cst (.int 2)) (.cons (.tup (.nil)) (.cons (.cst (.str [97, 98])) (.nil))))) (.cons (.tup (.cons (.cst (.int 3)) (.cons (.tup (.cons (.cst (.str [97])) (.nil))) (.cons (.cst (.str [])) (.nil))))) (.nil)))))))))) (.seq (.ifs (.bin (.ne) (.com (.var 5) [5] (.iseq (.var 2)) (.not (.cal 17 (.cons (.cal 2 (.cons (.var 5) (.nil))) (.cons (.cal 19 (.cons (.var 5) (.nil))) (.nil))))) [5]) (.lst (.nil))) (.seq (.ret (.cst (.bl false))) (.nop)) (.nop)) (.seq (.ifs (.or (.bin (.ne) (.cal 12 (.cons (.tup (.cons (.cst (.int 3)) (.cons (.tup (.cons (.cst (.str [97, 97])) (.cons (.cst (.str [97, 98])) (.nil)))) (.cons (.cst (.str [])) (.nil))))) (.cons (.cst (.str [97, 97, 97, 98, 97, 98])) (.nil)))) (.tup (.cons (.cst (.str [97, 97])) (.cons (.cst (.str [97, 98])) (.cons (.cst (.str [97, 98])) (.nil)))))) (.bin (.ne) (.cal 12 (.cons (.tup (.cons (.cst (.int 2)) (.cons (.tup (.nil)) (.cons (.cst (.str [])) (.nil))))) (.cons (.cst (.str [])) (.nil)))) (.tup (.nil)))) (.seq (.ret (.cst (.bl false))) (.nop)) (.nop)) (.seq (.ret (.and (.bin (.eq) (.cal 12 (.cons (.tup (.cons (.cst (.int 3)) (.cons (.tup (.cons (.cst (.str [99, 97])) (.nil))) (.cons (.cst (.str [])) (.nil))))) (.cons (.cst (.str [99, 97, 99, 97, 98])) (.nil)))) (.tup (.cons (.cst (.str [99, 97])) (.cons (.cst (.str [99, 97])) (.cons (.cst (.str [98])) (.nil)))))) (.bin (.eq) (.cal 10 (.cons (.tup (.cons (.cst (.int 2)) (.cons (.tup (.cons (.cst (.str [98, 97])) (.nil))) (.cons (.cst (.str [97])) (.nil))))) (.nil))) (.lst (.cons (.cst (.str [97])) (.cons (.cst (.str [98])) (.cons (.cst (.str [98, 97])) (.nil)))))))) (.nop))))))) }
def f32 : FI := { ar := 4, nl := 5, body := .seq (.ifs (.or (.not (.pri (.isi (.tuple)) (.cons (.var 1) (.nil)))) (.not (.chn (.le) (.le) (.var 2) (.pri (.len) (.cons (.var 1) (.nil))) (.var 3)))) (.seq (.ret (.cst (.bl false))) (.nop)) (.nop)) (.seq (.ret (.bin (.eq) (.com (.var 4) [4] (.iseq (.var 1)) (.not (.cal 5 (.cons (.var 0) (.cons (.var 4) (.nil))))) [4]) (.lst (.nil)))) (.nop)) }
def f33 : FI := { ar := 2, nl := 2, body := .seq (.ifs (.or (.not (.pri (.isi (.tuple)) (.cons (.var 1) (.nil)))) (.or (.bin (.lt) (.pri (.len) (.cons (.var 1) (.nil))) (.cst (.int 2))) (.not (.pri (.isi (.str)) (.cons (.bin (.idx) (.var 1) (.cst (.int 0))) (.nil)))))) (.seq (.ret (.cst (.bl false))) (.nop)) (.nop)) (.seq (.ifs (.bin (.eq) (.bin (.idx) (.var 1) (.cst (.int 0))) (.cst (.str [97, 104, 101, 97, 100]))) (.seq (.ret (.cal 32 (.cons (.var 0) (.cons (.slc (.var 1) (.cons (.cst (.int 1)) (.nil)) (.nil) false) (.cons (.cst (.int 2)) (.cons (.cst (.int 2)) (.nil))))))) (.nop)) (.nop)) (.seq (.ifs (.bin (.eq) (.bin (.idx) (.var 1) (.cst (.int 0))) (.cst (.str [98, 101, 116, 119, 101, 101, 110]))) (.seq (.ret (.cal 32 (.cons (.var 0) (.cons (.slc (.var 1) (.cons (.cst (.int 1)) (.nil)) (.nil) false) (.cons (.cst (.int 3)) (.cons (.cst (.int 3)) (.nil))))))) (.nop)) (.nop)) (.seq (.ret (.and (.bin (.eq) (.bin (.idx) (.var 1) (.cst (.int 0))) (.cst (.str [115, 111, 114, 116, 101, 100]))) (.and (.bin (.eq) (.pri (.len) (.cons (.var 1) (.nil))) (.cst (.int 2))) (.cal 32 (.cons (.var 0) (.cons (.bin (.idx) (.var 1) (.cst (.int 1))) (.cons (.cst (.int 2)) (.cons (.cst (.int 6)) (.nil))))))))) (.nop)))) }
def f34 : FI := { ar := 2, nl := 3, body := .seq (.ifs (.or (.not (.pri (.isi (.tuple)) (.cons (.var 1) (.nil)))) (.bin (.gt) (.pri (.len) (.cons (.var 1) (.nil))) (.cst (.int 5)))) (.seq (.ret (.cst (.bl false))) (.nop)) (.nop)) (.seq (.ret (.bin (.eq) (.com (.var 2) [2] (.iseq (.var 1)) (.not (.cal 33 (.cons (.var 0) (.cons (.var 2) (.nil))))) [2]) (.lst (.nil)))) (.nop)) }
def f35 : FI := { ar := 2, nl := 2, body := .seq (.exp (.cal 3 (.cons (.var 0) (.nil)))) (.seq (.ret (.cal 34 (.cons (.var 0) (.cons (.var 1) (.nil))))) (.nop)) }
def f36 : FI := { ar := 2, nl := 2, body := .seq (.ifs (.or (.not (.pri (.isi (.tuple)) (.cons (.var 1) (.nil)))) (.or (.bin (.ne) (.pri (.len) (.cons (.var 1) (.nil))) (.cst (.int 2))) (.not (.pri (.isi (.str)) (.cons (.bin (.idx) (.var 1) (.cst (.int 0))) (.nil)))))) (.seq (.ret (.cst (.bl false))) (.nop)) (.nop)) (.seq (.ifs (.bin (.inn) (.bin (.idx) (.var 1) (.cst (.int 0))) (.tup (.cons (.cst (.str [102, 105, 108, 101])) (.cons (.cst (.str [104, 97, 108, 118, 101])) (.cons (.cst (.str [100, 114, 111, 112])) (.nil)))))) (.seq (.ret (.cal 5 (.cons (.var 0) (.cons (.bin (.idx) (.var 1) (.cst (.int 1))) (.nil))))) (.nop)) (.nop)) (.seq (.ifs (.bin (.eq) (.bin (.idx) (.var 1) (.cst (.int 0))) (.cst (.str [109, 101, 114, 103, 101]))) (.seq (.ret (.cal 32 (.cons (.var 0) (.cons (.bin (.idx) (.var 1) (.cst (.int 1))) (.cons (.cst (.int 1)) (.cons (.cst (.int 4)) (.nil))))))) (.nop)) (.nop)) (.seq (.ret (.and (.bin (.inn) (.bin (.idx) (.var 1) (.cst (.int 0))) (.tup (.cons (.cst (.str [116, 117, 114, 110])) (.cons (.cst (.str [107, 101, 101, 112])) (.nil))))) (.cal 0 (.cons (.bin (.idx) (.var 1) (.cst (.int 1))) (.cons (.cst (.int 0)) (.cons (.cst (.int 7)) (.nil))))))) (.nop)))) }
def f37 : FI := { ar := 2, nl := 3, body := .seq (.ifs (.or (.not (.pri (.isi (.tuple)) (.cons (.var 1) (.nil)))) (.bin (.gt) (.pri (.len) (.cons (.var 1) (.nil))) (.cst (.int 3)))) (.seq (.ret (.cst (.bl false))) (.nop)) (.nop)) (.seq (.ret (.bin (.eq) (.com (.var 2) [2] (.iseq (.var 1)) (.not (.cal 36 (.cons (.var 0) (.cons (.var 2) (.nil))))) [2]) (.lst (.nil)))) (.nop)) }
def f38 : FI := { ar := 2, nl := 2, body := .seq (.ifs (.or (.not (.pri (.isi (.tuple)) (.cons (.var 1) (.nil)))) (.bin (.ne) (.pri (.len) (.cons (.var 1) (.nil))) (.cst (.int 5)))) (.seq (.ret (.cal 36 (.cons (.var 0) (.cons (.var 1) (.nil))))) (.nop)) (.nop)) (.seq (.ifs (.or (.not (.pri (.isi (.str)) (.cons (.bin (.idx) (.var 1) (.cst (.int 0))) (.nil)))) (.or (.bin (.ne) (.bin (.idx) (.var 1) (.cst (.int 0))) (.cst (.str [105, 102]))) (.not (.cal 32 (.cons (.var 0) (.cons (.slc (.var 1) (.cons (.cst (.int 1)) (.nil)) (.cons (.cst (.int 3)) (.nil)) false) (.cons (.cst (.int 2)) (.cons (.cst (.int 2)) (.nil))))))))) (.seq (.ret (.cst (.bl false))) (.nop)) (.nop)) (.seq (.ret (.and (.cal 37 (.cons (.var 0) (.cons (.bin (.idx) (.var 1) (.cst (.int 3))) (.nil)))) (.cal 37 (.cons (.var 0) (.cons (.bin (.idx) (.var 1) (.cst (.int 4))) (.nil)))))) (.nop))) }
def f39 : FI := { ar := 1, nl := 2, body := .seq (.ret (.pri (.sum) (.cons (.com (.ite (.bin (.eq) (.bin (.idx) (.var 1) (.cst (.int 0))) (.cst (.str [105, 102]))) (.bin (.add) (.bin (.add) (.cst (.int 1)) (.pri (.len) (.cons (.bin (.idx) (.var 1) (.cst (.int 3))) (.nil)))) (.pri (.len) (.cons (.bin (.idx) (.var 1) (.cst (.int 4))) (.nil)))) (.cst (.int 1))) [1] (.iseq (.var 0)) (.cst (.bl true)) [1]) (.nil)))) (.nop) }
def f40 : FI := { ar := 2, nl := 3, body := .seq (.ifs (.or (.not (.pri (.isi (.tuple)) (.cons (.var 1) (.nil)))) (.bin (.gt) (.pri (.len) (.cons (.var 1) (.nil))) (.cst (.int 5)))) (.seq (.ret (.cst (.bl false))) (.nop)) (.nop)) (.seq (.ret (.and (.bin (.eq) (.com (.var 2) [2] (.iseq (.var 1)) (.not (.cal 38 (.cons (.var 0) (.cons (.var 2) (.nil))))) [2]) (.lst (.nil))) (.bin (.le) (.cal 39 (.cons (.var 1) (.nil))) (.cst (.int 8))))) (.nop)) }
def f41 : FI := { ar := 2, nl := 2, body := .seq (.exp (.cal 3 (.cons (.var 0) (.nil)))) (.seq (.ret (.cal 40 (.cons (.var 0) (.cons (.var 1) (.nil))))) (.nop)) }
def f42 : FI := { ar := 2, nl := 3, body := .seq (.asg 2 (.bin (.add) (.bin (.mul) (.cst (.int 7919)) (.var 1)) (.cst (.int 43)))) (.seq (.ifs (.bin (.lt) (.var 1) (.pri (.len) (.cons (.var 0) (.nil)))) (.seq (.asg 2 (.pri (.abs) (.cons (.pri (.int) (.cons (.bin (.idx) (.var 0) (.var 1)) (.nil))) (.nil)))) (.nop)) (.nop)) (.seq (.ret (.mut (.lst (.cons (.ite (.bin (.ge) (.var 2) (.bin (.pow) (.cst (.int 10)) (.cst (.int 18)))) (.var 2) (.cst (.int 0))) (.cons (.bin (.add) (.bin (.mod) (.pri (.int) (.cons (.bin (.add) (.bin (.add) (.bin (.mul) (.var 2) (.cst (.int 131071))) (.bin (.mul) (.cst (.int 8191)) (.var 1))) (.cst (.int 5))) (.nil))) (.cst (.int 2147483629))) (.cst (.int 1))) (.nil)))))) (.nop))) }
def f43 : FI := { ar := 4, nl := 5, body := .seq (.ifs (.or (.not (.pri (.isi (.tuple)) (.cons (.var 1) (.nil)))) (.or (.bin (.lt) (.pri (.len) (.cons (.var 1) (.nil))) (.var 2)) (.bin (.gt) (.pri (.len) (.cons (.var 1) (.nil))) (.var 3)))) (.seq (.ret (.cst (.bl false))) (.nop)) (.nop)) (.seq (.ret (.bin (.eq) (.com (.var 4) [4] (.iseq (.var 1)) (.not (.cal 20 (.cons (.var 0) (.cons (.var 4) (.nil))))) [4]) (.lst (.nil)))) (.nop)) }
def f44 : FI := { ar := 2, nl := 2, body := .seq (.ifs (.or (.not (.pri (.isi (.tuple)) (.cons (.var 1) (.nil)))) (.or (.bin (.eq) (.var 1) (.tup (.nil))) (.not (.pri (.isi (.str)) (.cons (.bin (.idx) (.var 1) (.cst (.int 0))) (.nil)))))) (.seq (.ret (.cst (.bl false))) (.nop)) (.nop)) (.seq (.ifs (.bin (.eq) (.bin (.idx) (.var 1) (.cst (.int 0))) (.cst (.str [115, 111, 114, 116, 101, 100]))) (.seq (.ret (.and (.bin (.eq) (.pri (.len) (.cons (.var 1) (.nil))) (.cst (.int 2))) (.cal 43 (.cons (.var 0) (.cons (.bin (.idx) (.var 1) (.cst (.int 1))) (.cons (.cst (.int 2)) (.cons (.cst (.int 6)) (.nil)))))))) (.nop)) (.nop)) (.seq (.ifs (.bin (.eq) (.bin (.idx) (.var 1) (.cst (.int 0))) (.cst (.str [97, 104, 101, 97, 100]))) (.seq (.ret (.cal 43 (.cons (.var 0) (.cons (.slc (.var 1) (.cons (.cst (.int 1)) (.nil)) (.nil) false) (.cons (.cst (.int 2)) (.cons (.cst (.int 2)) (.nil))))))) (.nop)) (.nop)) (.seq (.ret (.and (.bin (.eq) (.bin (.idx) (.var 1) (.cst (.int 0))) (.cst (.str [98, 101, 116, 119, 101, 101, 110]))) (.cal 43 (.cons (.var 0) (.cons (.slc (.var 1) (.cons (.cst (.int 1)) (.nil)) (.nil) false) (.cons (.cst (.int 3)) (.cons (.cst (.int 3)) (.nil)))))))) (.nop)))) }
def f45 : FI := { ar := 2, nl := 3, body := .seq (.ifs (.or (.not (.pri (.isi (.tuple)) (.cons (.var 1) (.nil)))) (.bin (.gt) (.pri (.len) (.cons (.var 1) (.nil))) (.cst (.int 5)))) (.seq (.ret (.cst (.bl false))) (.nop)) (.nop)) (.seq (.ret (.bin (.eq) (.com (.var 2) [2] (.iseq (.var 1)) (.not (.cal 44 (.cons (.var 0) (.cons (.var 2) (.nil))))) [2]) (.lst (.nil)))) (.nop)) }
def f46 : FI := { ar := 2, nl := 2, body := .seq (.ifs (.or (.not (.pri (.isi (.tuple)) (.cons (.var 1) (.nil)))) (.or (.bin (.ne) (.pri (.len) (.cons (.var 1) (.nil))) (.cst (.int 2))) (.not (.pri (.isi (.str)) (.cons (.bin (.idx) (.var 1) (.cst (.int 0))) (.nil)))))) (.seq (.ret (.cst (.bl false))) (.nop)) (.nop)) (.seq (.ifs (.bin (.eq) (.bin (.idx) (.var 1) (.cst (.int 0))) (.cst (.str [109, 101, 114, 103, 101]))) (.seq (.ret (.cal 43 (.cons (.var 0) (.cons (.bin (.idx) (.var 1) (.cst (.int 1))) (.cons (.cst (.int 1)) (.cons (.cst (.int 4)) (.nil))))))) (.nop)) (.nop)) (.seq (.ifs (.bin (.inn) (.bin (.idx) (.var 1) (.cst (.int 0))) (.lst (.cons (.cst (.str [116, 117, 114, 110])) (.cons (.cst (.str [107, 101, 101, 112])) (.nil))))) (.seq (.ret (.cal 16 (.cons (.bin (.idx) (.var 1) (.cst (.int 1))) (.cons (.cst (.int 0)) (.cons (.cst (.int 7)) (.nil)))))) (.nop)) (.nop)) (.seq (.ret (.and (.bin (.inn) (.bin (.idx) (.var 1) (.cst (.int 0))) (.lst (.cons (.cst (.str [102, 105, 108, 101])) (.cons (.cst (.str [104, 97, 108, 118, 101])) (.cons (.cst (.str [100, 114, 111, 112])) (.nil)))))) (.cal 20 (.cons (.var 0) (.cons (.bin (.idx) (.var 1) (.cst (.int 1))) (.nil)))))) (.nop)))) }
def f47 : FI := { ar := 2, nl := 6, body := .seq (.ifs (.or (.not (.pri (.isi (.tuple)) (.cons (.var 1) (.nil)))) (.bin (.gt) (.pri (.len) (.cons (.var 1) (.nil))) (.cst (.int 5)))) (.seq (.ret (.cst (.bl false))) (.nop)) (.nop)) (.seq (.asg 2 (.pri (.len) (.cons (.var 1) (.nil)))) (.seq (.for [3] (.iseq (.var 1)) (.seq (.ifs (.and (.pri (.isi (.tuple)) (.cons (.var 3) (.nil))) (.bin (.eq) (.pri (.len) (.cons (.var 3) (.nil))) (.cst (.int 5)))) (.seq (.ifs (.or (.not (.pri (.isi (.str)) (.cons (.bin (.idx) (.var 3) (.cst (.int 0))) (.nil)))) (.or (.bin (.ne) (.bin (.idx) (.var 3) (.cst (.int 0))) (.cst (.str [105, 102]))) (.not (.cal 43 (.cons (.var 0) (.cons (.slc (.var 3) (.cons (.cst (.int 1)) (.nil)) (.cons (.cst (.int 3)) (.nil)) false) (.cons (.cst (.int 2)) (.cons (.cst (.int 2)) (.nil))))))))) (.seq (.ret (.cst (.bl false))) (.nop)) (.nop)) (.seq (.for [4] (.iseq (.slc (.var 3) (.cons (.cst (.int 3)) (.nil)) (.nil) false)) (.seq (.ifs (.or (.not (.pri (.isi (.tuple)) (.cons (.var 4) (.nil)))) (.bin (.gt) (.pri (.len) (.cons (.var 4) (.nil))) (.cst (.int 3)))) (.seq (.ret (.cst (.bl false))) (.nop)) (.nop)) (.seq (.ifs (.bin (.ne) (.com (.var 5) [5] (.iseq (.var 4)) (.not (.cal 46 (.cons (.var 0) (.cons (.var 5) (.nil))))) [5]) (.lst (.nil))) (.seq (.ret (.cst (.bl false))) (.nop)) (.nop)) (.seq (.asg 2 (.bin (.add) (.var 2) (.pri (.len) (.cons (.var 4) (.nil))))) (.nop))))) (.nop))) (.seq (.ifs (.not (.cal 46 (.cons (.var 0) (.cons (.var 3) (.nil))))) (.seq (.ret (.cst (.bl false))) (.nop)) (.nop)) (.nop))) (.nop))) (.seq (.ret (.bin (.le) (.var 2) (.cst (.int 8)))) (.nop)))) }
def f48 : FI := { ar := 3, nl := 7, body := .seq (.asg 3 (.tup (.nil))) (.seq (.for [4] (.irng (.var 2)) (.seq (.asg 5 (.cal 25 (.cons (.var 0) (.cons (.var 1) (.cons (.cst (.int 4)) (.nil)))))) (.seq (.ifs (.and (.bin (.ne) (.var 3) (.tup (.nil))) (.bin (.eq) (.cal 14 (.cons (.var 0) (.cons (.cst (.int 2)) (.nil)))) (.cst (.int 0)))) (.seq (.asg 6 (.cal 15 (.cons (.var 0) (.cons (.pri (.list) (.cons (.var 3) (.nil))) (.nil))))) (.seq (.asg 5 (.bin (.add) (.slc (.var 6) (.nil) (.cons (.cal 14 (.cons (.var 0) (.cons (.bin (.add) (.pri (.len) (.cons (.var 6) (.nil))) (.cst (.int 1))) (.nil)))) (.nil)) false) (.cal 25 (.cons (.var 0) (.cons (.var 1) (.cons (.cst (.int 2)) (.nil))))))) (.nop))) (.nop)) (.seq (.asg 3 (.bin (.add) (.var 3) (.tup (.cons (.slc (.var 5) (.nil) (.cons (.cst (.int 8)) (.nil)) false) (.nil))))) (.nop))))) (.seq (.ret (.var 3)) (.nop))) }
def f49 : FI := { ar := 2, nl := 3, body := .seq (.asg 2 (.cal 15 (.cons (.var 0) (.cons (.lst (.cons (.cst (.str [97, 104, 101, 97, 100])) (.cons (.cst (.str [97, 104, 101, 97, 100])) (.cons (.cst (.str [98, 101, 116, 119, 101, 101, 110])) (.cons (.cst (.str [115, 111, 114, 116, 101, 100])) (.nil)))))) (.nil))))) (.seq (.ifs (.bin (.eq) (.var 2) (.cst (.str [115, 111, 114, 116, 101, 100]))) (.seq (.ret (.tup (.cons (.var 2) (.cons (.cal 48 (.cons (.var 0) (.cons (.var 1) (.cons (.bin (.add) (.cst (.int 2)) (.cal 14 (.cons (.var 0) (.cons (.cst (.int 3)) (.nil))))) (.nil))))) (.nil))))) (.nop)) (.nop)) (.seq (.ret (.bin (.add) (.tup (.cons (.var 2) (.nil))) (.cal 48 (.cons (.var 0) (.cons (.var 1) (.cons (.ite (.bin (.eq) (.var 2) (.cst (.str [97, 104, 101, 97, 100]))) (.cst (.int 2)) (.cst (.int 3))) (.nil))))))) (.nop))) }
def f50 : FI := { ar := 2, nl := 3, body := .seq (.asg 2 (.cal 15 (.cons (.var 0) (.cons (.lst (.cons (.cst (.str [102, 105, 108, 101])) (.cons (.cst (.str [102, 105, 108, 101])) (.cons (.cst (.str [104, 97, 108, 118, 101])) (.cons (.cst (.str [100, 114, 111, 112])) (.cons (.cst (.str [109, 101, 114, 103, 101])) (.cons (.cst (.str [116, 117, 114, 110])) (.cons (.cst (.str [107, 101, 101, 112])) (.nil))))))))) (.nil))))) (.seq (.ifs (.bin (.eq) (.var 2) (.cst (.str [109, 101, 114, 103, 101]))) (.seq (.ret (.tup (.cons (.var 2) (.cons (.cal 48 (.cons (.var 0) (.cons (.var 1) (.cons (.bin (.add) (.cst (.int 1)) (.cal 14 (.cons (.var 0) (.cons (.cst (.int 3)) (.nil))))) (.nil))))) (.nil))))) (.nop)) (.nop)) (.seq (.ifs (.bin (.inn) (.var 2) (.lst (.cons (.cst (.str [116, 117, 114, 110])) (.cons (.cst (.str [107, 101, 101, 112])) (.nil))))) (.seq (.ret (.tup (.cons (.var 2) (.cons (.cal 14 (.cons (.var 0) (.cons (.cst (.int 4)) (.nil)))) (.nil))))) (.nop)) (.nop)) (.seq (.ret (.tup (.cons (.var 2) (.cons (.cal 25 (.cons (.var 0) (.cons (.var 1) (.cons (.cst (.int 3)) (.nil))))) (.nil))))) (.nop)))) }
def f51 : FI := { ar := 2, nl := 7, body := .seq (.asg 2 (.tup (.nil))) (.seq (.for [3] (.irng (.cal 14 (.cons (.var 0) (.cons (.cst (.int 4)) (.nil))))) (.seq (.asg 4 (.cal 50 (.cons (.var 0) (.cons (.var 1) (.nil))))) (.seq (.ifs (.bin (.eq) (.cal 14 (.cons (.var 0) (.cons (.cst (.int 5)) (.nil)))) (.cst (.int 0))) (.seq (.unp [5, 6] (.cal 48 (.cons (.var 0) (.cons (.var 1) (.cons (.cst (.int 2)) (.nil)))))) (.seq (.asg 4 (.tup (.cons (.cst (.str [105, 102])) (.cons (.var 5) (.cons (.var 6) (.cons (.tup (.cons (.var 4) (.nil))) (.cons (.bin (.mul) (.tup (.cons (.cal 50 (.cons (.var 0) (.cons (.var 1) (.nil)))) (.nil))) (.cal 14 (.cons (.var 0) (.cons (.cst (.int 2)) (.nil))))) (.nil)))))))) (.nop))) (.nop)) (.seq (.asg 2 (.bin (.add) (.var 2) (.tup (.cons (.var 4) (.nil))))) (.nop))))) (.seq (.ret (.ite (.cal 47 (.cons (.var 1) (.cons (.var 2) (.nil)))) (.var 2) (.slc (.var 2) (.nil) (.cons (.cst (.int 2)) (.nil)) false))) (.nop))) }
def f53 : FI := { ar := 2, nl := 2, body := .seq (.ifs (.not (.cal 17 (.cons (.cal 35 (.cons (.var 0) (.cons (.var 1) (.nil)))) (.cons (.cal 45 (.cons (.var 0) (.cons (.var 1) (.nil)))) (.nil))))) (.seq (.ret (.cst (.bl false))) (.nop)) (.nop)) (.seq (.ret (.cal 17 (.cons (.cal 41 (.cons (.var 0) (.cons (.var 1) (.nil)))) (.cons (.cal 47 (.cons (.var 0) (.cons (.var 1) (.nil)))) (.nil))))) (.nop)) }
def f54 : FI := { ar := 1, nl := 1, body := .seq (.ret (.lam (.cal 41 (.cons (.var 0) (.cons (.cst (.non)) (.nil)))))) (.nop) }
def f55 : FI := { ar := 1, nl := 14, body := .seq (.for [1] (.irng (.pri (.max2) (.cons (.cst (.int 6)) (.cons (.pri (.min2) (.cons (.cst (.int 13)) (.cons (.pri (.len) (.cons (.var 0) (.nil))) (.nil)))) (.nil))))) (.seq (.asg 4 (.cal 42 (.cons (.var 0) (.cons (.var 1) (.nil))))) (.seq (.asg 5 (.cal 24 (.cons (.var 4) (.nil)))) (.seq (.asg 6 (.bin (.add) (.cal 51 (.cons (.var 4) (.cons (.var 5) (.nil)))) (.tup (.cons (.tup (.cons (.cst (.str [105, 102])) (.cons (.cst (.str [97])) (.cons (.cst (.str [98])) (.cons (.tup (.cons (.tup (.cons (.cst (.str [116, 117, 114, 110])) (.cons (.cst (.int 0)) (.nil)))) (.nil))) (.cons (.tup (.nil)) (.nil))))))) (.nil))))) (.seq (.for [7] (.iseq (.lst (.cons (.pri (.tuple) (.cons (.com (.cal 49 (.cons (.var 4) (.cons (.var 5) (.nil)))) [13] (.irng (.cst (.int 3))) (.cst (.bl true)) [13]) (.nil))) (.cons (.var 6) (.cons (.cal 51 (.cons (.var 4) (.cons (.var 5) (.nil)))) (.nil)))))) (.seq (.asg 10 (.var 7)) (.seq (.ifs (.not (.cal 53 (.cons (.var 5) (.cons (.var 7) (.nil))))) (.seq (.ret (.cst (.bl false))) (.nop)) (.nop)) (.seq (.for [11] (.irng (.cst (.int 12))) (.seq (.asg 10 (.cal 29 (.cons (.var 4) (.cons (.ite (.bin (.eq) (.bin (.mod) (.var 11) (.cst (.int 3))) (.cst (.int 0))) (.var 7) (.var 10)) (.nil))))) (.seq (.ifs (.not (.cal 53 (.cons (.var 5) (.cons (.var 10) (.nil))))) (.seq (.ret (.cst (.bl false))) (.nop)) (.nop)) (.nop)))) (.nop))))) (.seq (.ifs (.not (.cal 53 (.cons (.var 5) (.cons (.cal 28 (.cons (.var 4) (.cons (.cst (.int 2)) (.nil)))) (.nil))))) (.seq (.ret (.cst (.bl false))) (.nop)) (.nop)) (.seq (.for [8] (.iseq (.lst (.cons (.cst (.non)) (.cons (.slc (.var 5) (.nil) (.cons (.cst (.int 2)) (.nil)) false) (.cons (.tup (.cons (.cst (.int 9)) (.cons (.tup (.nil)) (.cons (.cst (.str [])) (.nil))))) (.nil)))))) (.seq (.asg 12 (.lst (.cons (.lam (.cal 35 (.cons (.var 8) (.cons (.cst (.non)) (.nil))))) (.cons (.cal 54 (.cons (.var 8) (.nil))) (.nil))))) (.seq (.ifs (.bin (.ne) (.var 12) (.bin (.mul) (.lst (.cons (.cst (.str [109, 97, 110, 110, 101, 114, 32, 118, 97, 108, 117, 101])) (.nil))) (.cst (.int 2)))) (.seq (.ret (.cst (.bl false))) (.nop)) (.nop)) (.nop)))) (.nop)))))))) (.seq (.unp [5, 9] (.tup (.cons (.tup (.cons (.cst (.int 2)) (.cons (.tup (.nil)) (.cons (.cst (.str [])) (.nil))))) (.cons (.tup (.cons (.cst (.str [116, 117, 114, 110])) (.cons (.cst (.int 0)) (.nil)))) (.nil))))) (.seq (.asg 2 (.lst (.cons (.bin (.mul) (.tup (.cons (.tup (.cons (.cst (.str [97, 104, 101, 97, 100])) (.cons (.cst (.str [97])) (.cons (.cst (.str [98])) (.nil))))) (.nil))) (.cst (.int 5))) (.cons (.bin (.mul) (.tup (.cons (.tup (.cons (.cst (.str [97, 104, 101, 97, 100])) (.cons (.cst (.str [97])) (.cons (.cst (.str [98])) (.nil))))) (.nil))) (.cst (.int 6))) (.cons (.tup (.cons (.tup (.cons (.cst (.str [97, 104, 101, 97, 100])) (.cons (.cst (.str [97])) (.cons (.cst (.str [99])) (.nil))))) (.nil))) (.cons (.tup (.cons (.tup (.cons (.cst (.str [97, 104, 101, 97, 100])) (.cons (.cst (.str [97])) (.nil)))) (.nil))) (.cons (.tup (.nil)) (.nil)))))))) (.seq (.asg 2 (.bin (.add) (.var 2) (.lst (.cons (.tup (.cons (.tup (.cons (.cst (.str [98, 101, 116, 119, 101, 101, 110])) (.cons (.cst (.str [97])) (.cons (.cst (.str [98])) (.nil))))) (.nil))) (.cons (.tup (.cons (.tup (.cons (.cst (.str [98, 101, 116, 119, 101, 101, 110])) (.cons (.cst (.str [97])) (.cons (.cst (.str [98])) (.cons (.cst (.str [97])) (.nil)))))) (.nil))) (.cons (.tup (.cons (.tup (.cons (.cst (.str [115, 111, 114, 116, 101, 100])) (.cons (.tup (.cons (.cst (.str [97])) (.nil))) (.nil)))) (.nil))) (.cons (.tup (.cons (.tup (.cons (.cst (.str [115, 111, 114, 116, 101, 100])) (.cons (.cst (.str [97, 98])) (.nil)))) (.nil))) (.nil)))))))) (.seq (.asg 2 (.bin (.add) (.var 2) (.lst (.cons (.tup (.cons (.tup (.cons (.cst (.str [115, 111, 114, 116, 101, 100])) (.cons (.bin (.mul) (.tup (.cons (.cst (.str [97])) (.nil))) (.cst (.int 6))) (.nil)))) (.nil))) (.cons (.tup (.cons (.tup (.cons (.cst (.str [115, 111, 114, 116, 101, 100])) (.cons (.bin (.mul) (.tup (.cons (.cst (.str [97])) (.nil))) (.cst (.int 7))) (.nil)))) (.nil))) (.cons (.tup (.cons (.tup (.cons (.cst (.str [97, 104, 101, 97, 100])) (.cons (.bin (.mul) (.cst (.str [97])) (.cst (.int 9))) (.cons (.cst (.str [])) (.nil))))) (.nil))) (.cons (.tup (.cons (.cst (.str [97, 104, 101, 97, 100])) (.cons (.cst (.str [97])) (.cons (.cst (.str [98])) (.nil))))) (.nil)))))))) (.seq (.asg 2 (.bin (.add) (.var 2) (.lst (.cons (.bin (.mul) (.tup (.cons (.var 9) (.nil))) (.cst (.int 5))) (.cons (.bin (.mul) (.tup (.cons (.var 9) (.nil))) (.cst (.int 6))) (.cons (.tup (.cons (.tup (.cons (.cst (.str [116, 117, 114, 110])) (.cons (.cst (.int 8)) (.nil)))) (.nil))) (.cons (.tup (.cons (.tup (.cons (.cst (.str [107, 101, 101, 112])) (.cons (.pri (.neg) (.cons (.cst (.int 1)) (.nil))) (.nil)))) (.nil))) (.cons (.tup (.cons (.tup (.cons (.cst (.str [102, 105, 108, 101])) (.cons (.cst (.str [99])) (.nil)))) (.nil))) (.cons (.tup (.cons (.tup (.cons (.cst (.str [109, 101, 114, 103, 101])) (.cons (.tup (.nil)) (.nil)))) (.nil))) (.nil)))))))))) (.seq (.asg 2 (.bin (.add) (.var 2) (.lst (.cons (.tup (.cons (.tup (.cons (.cst (.str [109, 101, 114, 103, 101])) (.cons (.bin (.mul) (.tup (.cons (.cst (.str [97])) (.nil))) (.cst (.int 4))) (.nil)))) (.nil))) (.cons (.tup (.cons (.tup (.cons (.cst (.str [109, 101, 114, 103, 101])) (.cons (.bin (.mul) (.tup (.cons (.cst (.str [97])) (.nil))) (.cst (.int 5))) (.nil)))) (.nil))) (.cons (.tup (.cons (.tup (.cons (.cst (.str [105, 102])) (.cons (.cst (.str [97])) (.cons (.cst (.str [98])) (.cons (.bin (.mul) (.tup (.cons (.var 9) (.nil))) (.cst (.int 3))) (.cons (.bin (.mul) (.tup (.cons (.var 9) (.nil))) (.cst (.int 3))) (.nil))))))) (.nil))) (.nil))))))) (.seq (.asg 3 (.tup (.cons (.cst (.str [105, 102])) (.cons (.cst (.str [97])) (.cons (.cst (.str [98])) (.cons (.bin (.mul) (.tup (.cons (.var 9) (.nil))) (.cst (.int 3))) (.cons (.bin (.mul) (.tup (.cons (.var 9) (.nil))) (.cst (.int 3))) (.nil)))))))) (.seq (.asg 2 (.bin (.add) (.var 2) (.lst (.cons (.tup (.cons (.var 3) (.cons (.var 9) (.nil)))) (.cons (.tup (.cons (.var 3) (.cons (.var 9) (.cons (.var 9) (.nil))))) (.nil)))))) (.seq (.asg 2 (.bin (.add) (.var 2) (.lst (.cons (.tup (.cons (.tup (.cons (.cst (.str [105, 102])) (.cons (.cst (.str [97])) (.cons (.cst (.str [98])) (.cons (.bin (.mul) (.tup (.cons (.var 9) (.nil))) (.cst (.int 4))) (.cons (.tup (.nil)) (.nil))))))) (.nil))) (.cons (.tup (.cons (.tup (.cons (.cst (.str [105, 102])) (.cons (.cst (.str [97])) (.cons (.cst (.str [98])) (.cons (.tup (.cons (.tup (.cons (.cst (.str [105, 102])) (.cons (.cst (.str [97])) (.cons (.cst (.str [98])) (.cons (.tup (.nil)) (.cons (.tup (.nil)) (.nil))))))) (.nil))) (.cons (.tup (.nil)) (.nil))))))) (.nil))) (.nil)))))) (.seq (.ret (.bin (.eq) (.com (.var 7) [7] (.iseq (.var 2)) (.not (.cal 53 (.cons (.var 5) (.cons (.var 7) (.nil))))) [7]) (.lst (.nil)))) (.nop))))))))))) }
def f56 : FI := { ar := 2, nl := 2, body := .seq (.ifs (.not (.cal 32 (.cons (.var 0) (.cons (.var 1) (.cons (.cst (.int 0)) (.cons (.cst (.int 8)) (.nil))))))) (.seq (.rse 3) (.nop)) (.nop)) (.nop) }
def f57 : FI := { ar := 2, nl := 2, body := .seq (.ifs (.not (.cal 7 (.cons (.var 0) (.cons (.var 1) (.nil))))) (.seq (.rse 1) (.nop)) (.nop)) (.nop) }
def f58 : FI := { ar := 2, nl := 4, body := .seq (.for [2, 3] (.izip (.var 0) (.var 1)) (.seq (.ifs (.bin (.ne) (.var 2) (.var 3)) (.seq (.ret (.tup (.cons (.var 2) (.cons (.var 3) (.nil))))) (.nop)) (.nop)) (.nop))) (.seq (.ret (.ite (.bin (.eq) (.pri (.len) (.cons (.var 0) (.nil))) (.pri (.len) (.cons (.var 1) (.nil)))) (.cst (.non)) (.bin (.lt) (.pri (.len) (.cons (.var 0) (.nil))) (.pri (.len) (.cons (.var 1) (.nil)))))) (.nop)) }
def f59 : FI := { ar := 2, nl := 3, body := .seq (.ret (.pri (.tuple) (.cons (.com (.var 2) [2] (.iseq (.var 1)) (.bin (.ne) (.var 2) (.bin (.idx) (.var 0) (.cst (.int 2)))) [2]) (.nil)))) (.nop) }
def f60 : FI := { ar := 3, nl := 6, body := .seq (.par [4, 5] (.cons (.cal 11 (.cons (.var 0) (.cons (.var 1) (.nil)))) (.cons (.cal 11 (.cons (.var 0) (.cons (.var 2) (.nil)))) (.nil)))) (.seq (.asg 3 (.cal 58 (.cons (.cal 59 (.cons (.var 0) (.cons (.var 4) (.nil)))) (.cons (.cal 59 (.cons (.var 0) (.cons (.var 5) (.nil)))) (.nil))))) (.seq (.ret (.ite (.bin (.is) (.var 3) (.cst (.non))) (.cal 58 (.cons (.var 4) (.cons (.var 5) (.nil)))) (.var 3))) (.nop))) }
def f61 : FI := { ar := 4, nl := 5, body := .seq (.asg 4 (.cal 60 (.cons (.var 0) (.cons (.var 2) (.cons (.var 3) (.nil)))))) (.seq (.ifs (.or (.bin (.is) (.var 4) (.cst (.non))) (.pri (.isi (.bool)) (.cons (.var 4) (.nil)))) (.seq (.ret (.bin (.is) (.var 4) (.cst (.bl true)))) (.nop)) (.nop)) (.seq (.ret (.bin (.lt) (.mth (.index) (.var 1) (.cons (.bin (.idx) (.var 4) (.cst (.int 0))) (.nil))) (.mth (.index) (.var 1) (.cons (.bin (.idx) (.var 4) (.cst (.int 1))) (.nil))))) (.nop))) }
def f62 : FI := { ar := 4, nl := 4, body := .seq (.exp (.cal 3 (.cons (.var 0) (.nil)))) (.seq (.exp (.cal 57 (.cons (.var 0) (.cons (.var 1) (.nil))))) (.seq (.exp (.cal 6 (.cons (.var 0) (.cons (.var 2) (.nil))))) (.seq (.exp (.cal 6 (.cons (.var 0) (.cons (.var 3) (.nil))))) (.seq (.ifs (.bin (.eq) (.var 2) (.var 3)) (.seq (.ret (.cst (.str [115, 97, 109, 101]))) (.nop)) (.nop)) (.seq (.ret (.ite (.cal 61 (.cons (.var 0) (.cons (.var 1) (.cons (.var 2) (.cons (.var 3) (.nil)))))) (.cst (.str [97, 104, 101, 97, 100])) (.cst (.str [98, 101, 104, 105, 110, 100])))) (.nop)))))) }
def f63 : FI := { ar := 4, nl := 5, body := .seq (.asg 4 (.cst (.int 0))) (.seq (.whl (.and (.bin (.lt) (.var 4) (.pri (.len) (.cons (.var 2) (.nil)))) (.not (.cal 61 (.cons (.var 0) (.cons (.var 1) (.cons (.var 3) (.cons (.bin (.idx) (.var 2) (.var 4)) (.nil)))))))) (.seq (.asg 4 (.bin (.add) (.var 4) (.cst (.int 1)))) (.nop))) (.seq (.ret (.bin (.add) (.bin (.add) (.slc (.var 2) (.nil) (.cons (.var 4) (.nil)) false) (.tup (.cons (.var 3) (.nil)))) (.slc (.var 2) (.cons (.var 4) (.nil)) (.nil) false))) (.nop))) }
def f64 : FI := { ar := 3, nl := 5, body := .seq (.asg 3 (.tup (.nil))) (.seq (.for [4] (.iseq (.var 2)) (.seq (.asg 3 (.cal 63 (.cons (.var 0) (.cons (.var 1) (.cons (.var 3) (.cons (.var 4) (.nil))))))) (.nop))) (.seq (.ret (.var 3)) (.nop))) }
def f65 : FI := { ar := 3, nl := 3, body := .seq (.exp (.cal 3 (.cons (.var 0) (.nil)))) (.seq (.exp (.cal 57 (.cons (.var 0) (.cons (.var 1) (.nil))))) (.seq (.exp (.cal 56 (.cons (.var 0) (.cons (.var 2) (.nil))))) (.seq (.ret (.pri (.list) (.cons (.cal 64 (.cons (.var 0) (.cons (.var 1) (.cons (.var 2) (.nil))))) (.nil)))) (.nop)))) }
def f66 : FI := { ar := 3, nl := 6, body := .seq (.asg 3 (.cal 23 (.cons (.var 0) (.cons (.var 2) (.nil))))) (.seq (.asg 4 (.com (.mth (.index) (.var 1) (.cons (.var 5) (.nil))) [5] (.iseq (.var 3)) (.bin (.ne) (.var 5) (.bin (.idx) (.var 0) (.cst (.int 2)))) [5])) (.seq (.ret (.tup (.cons (.var 4) (.cons (.com (.mth (.index) (.var 1) (.cons (.var 5) (.nil))) [5] (.iseq (.var 3)) (.cst (.bl true)) [5]) (.nil))))) (.nop))) }
def f67 : FI := { ar := 4, nl := 4, body := .seq (.ret (.bin (.lt) (.cal 66 (.cons (.var 0) (.cons (.var 1) (.cons (.var 2) (.nil))))) (.cal 66 (.cons (.var 0) (.cons (.var 1) (.cons (.var 3) (.nil))))))) (.nop) }
def f68 : FI := { ar := 3, nl := 7, body := .seq (.par [3, 4] (.cons (.mut (.pri (.list) (.cons (.var 2) (.nil)))) (.cons (.tup (.nil)) (.nil)))) (.seq (.whl (.bin (.ne) (.var 3) (.lst (.nil))) (.seq (.asg 5 (.bin (.idx) (.var 3) (.cst (.int 0)))) (.seq (.fol [6] (.var 3) (.seq (.asg 5 (.ite (.cal 67 (.cons (.var 0) (.cons (.var 1) (.cons (.var 6) (.cons (.var 5) (.nil)))))) (.var 6) (.var 5))) (.nop))) (.seq (.exp (.mth (.remove) (.var 3) (.cons (.var 5) (.nil)))) (.seq (.asg 4 (.bin (.add) (.var 4) (.tup (.cons (.var 5) (.nil))))) (.nop)))))) (.seq (.ret (.var 4)) (.nop))) }
def f69 : FI := { ar := 1, nl := 13, body := .seq (.for [1] (.irng (.pri (.max2) (.cons (.cst (.int 6)) (.cons (.pri (.min2) (.cons (.cst (.int 14)) (.cons (.pri (.len) (.cons (.var 0) (.nil))) (.nil)))) (.nil))))) (.seq (.asg 4 (.cal 13 (.cons (.var 0) (.cons (.var 1) (.nil))))) (.seq (.asg 5 (.cal 24 (.cons (.var 4) (.nil)))) (.seq (.unp [8, 9] (.tup (.cons (.cal 15 (.cons (.var 4) (.cons (.cal 22 (.cons (.var 5) (.nil))) (.nil)))) (.cons (.cal 48 (.cons (.var 4) (.cons (.var 5) (.cons (.cst (.int 8)) (.nil))))) (.nil))))) (.seq (.for [6] (.iseq (.var 9)) (.seq (.for [10] (.iseq (.slc (.var 9) (.nil) (.cons (.cst (.int 4)) (.nil)) false)) (.seq (.asg 12 (.ite (.cal 67 (.cons (.var 5) (.cons (.var 8) (.cons (.var 6) (.cons (.var 10) (.nil)))))) (.cst (.str [97, 104, 101, 97, 100])) (.cst (.str [98, 101, 104, 105, 110, 100])))) (.seq (.ifs (.bin (.ne) (.cal 62 (.cons (.var 5) (.cons (.var 8) (.cons (.var 6) (.cons (.var 10) (.nil)))))) (.ite (.bin (.eq) (.var 6) (.var 10)) (.cst (.str [115, 97, 109, 101])) (.var 12))) (.seq (.ret (.cst (.bl false))) (.nop)) (.nop)) (.nop)))) (.nop))) (.seq (.ifs (.bin (.ne) (.pri (.tuple) (.cons (.cal 65 (.cons (.var 5) (.cons (.var 8) (.cons (.var 9) (.nil))))) (.nil))) (.cal 68 (.cons (.var 5) (.cons (.var 8) (.cons (.var 9) (.nil)))))) (.seq (.ret (.cst (.bl false))) (.nop)) (.nop)) (.seq (.ifs (.not (.pri (.isi (.list)) (.cons (.cal 65 (.cons (.var 5) (.cons (.var 8) (.cons (.tup (.nil)) (.nil))))) (.nil)))) (.seq (.ret (.cst (.bl false))) (.nop)) (.nop)) (.seq (.for [7] (.iseq (.lst (.cons (.cst (.non)) (.cons (.slc (.var 8) (.nil) (.cons (.pri (.neg) (.cons (.cst (.int 1)) (.nil))) (.nil)) false) (.cons (.bin (.add) (.var 8) (.slc (.var 8) (.nil) (.cons (.cst (.int 1)) (.nil)) false)) (.cons (.pri (.list) (.cons (.var 8) (.nil))) (.cons (.bin (.add) (.slc (.var 8) (.nil) (.cons (.pri (.neg) (.cons (.cst (.int 1)) (.nil))) (.nil)) false) (.tup (.cons (.cst (.str [122])) (.nil)))) (.nil)))))))) (.seq (.ifs (.bin (.ne) (.lam (.cal 62 (.cons (.var 5) (.cons (.var 7) (.cons (.cst (.non)) (.cons (.cst (.non)) (.nil))))))) (.cst (.str [97, 108, 112, 104, 97, 98, 101, 116, 32, 118, 97, 108, 117, 101]))) (.seq (.ret (.cst (.bl false))) (.nop)) (.nop)) (.seq (.ifs (.bin (.ne) (.lam (.cal 65 (.cons (.var 5) (.cons (.var 7) (.cons (.cst (.non)) (.nil)))))) (.cst (.str [97, 108, 112, 104, 97, 98, 101, 116, 32, 118, 97, 108, 117, 101]))) (.seq (.ret (.cst (.bl false))) (.nop)) (.nop)) (.nop)))) (.seq (.for [7] (.iseq (.lst (.cons (.cst (.non)) (.cons (.bin (.idx) (.var 9) (.cst (.int 0))) (.cons (.pri (.list) (.cons (.var 9) (.nil))) (.cons (.bin (.add) (.var 9) (.slc (.var 9) (.nil) (.cons (.cst (.int 1)) (.nil)) false)) (.cons (.tup (.cons (.cst (.non)) (.nil))) (.nil)))))))) (.seq (.ifs (.bin (.ne) (.lam (.cal 65 (.cons (.var 5) (.cons (.var 8) (.cons (.var 7) (.nil)))))) (.cst (.str [119, 111, 114, 100, 115, 32, 118, 97, 108, 117, 101]))) (.seq (.ret (.cst (.bl false))) (.nop)) (.nop)) (.nop))) (.seq (.ifs (.bin (.ne) (.lam (.cal 62 (.cons (.var 5) (.cons (.var 8) (.cons (.cst (.str [97])) (.cons (.bin (.mul) (.cst (.str [97])) (.cst (.int 9))) (.nil))))))) (.cst (.str [119, 111, 114, 100, 32, 118, 97, 108, 117, 101]))) (.seq (.ret (.cst (.bl false))) (.nop)) (.nop)) (.nop))))))))))) (.seq (.asg 2 (.tup (.cons (.cst (.int 3)) (.cons (.tup (.nil)) (.cons (.cst (.str [98])) (.nil)))))) (.seq (.asg 3 (.com (.cal 62 (.cons (.var 2) (.cons (.tup (.cons (.cst (.str [97])) (.cons (.cst (.str [98])) (.cons (.cst (.str [99])) (.nil))))) (.cons (.cst (.str [98, 97])) (.cons (.var 11) (.nil)))))) [11] (.iseq (.tup (.cons (.cst (.str [97, 99])) (.cons (.cst (.str [97, 98])) (.cons (.cst (.str [98, 97])) (.cons (.cst (.str [97])) (.nil))))))) (.cst (.bl true)) [11])) (.seq (.ifs (.or (.bin (.ne) (.var 3) (.lst (.cons (.cst (.str [97, 104, 101, 97, 100])) (.cons (.cst (.str [98, 101, 104, 105, 110, 100])) (.cons (.cst (.str [115, 97, 109, 101])) (.cons (.cst (.str [98, 101, 104, 105, 110, 100])) (.nil))))))) (.bin (.ne) (.cal 62 (.cons (.var 2) (.cons (.tup (.cons (.cst (.str [97])) (.cons (.cst (.str [98])) (.cons (.cst (.str [99])) (.nil))))) (.cons (.cst (.str [97, 98])) (.cons (.cst (.str [98, 97])) (.nil)))))) (.cst (.str [97, 104, 101, 97, 100])))) (.seq (.ret (.cst (.bl false))) (.nop)) (.nop)) (.seq (.ifs (.bin (.ne) (.cal 62 (.cons (.tup (.cons (.cst (.int 3)) (.cons (.tup (.cons (.cst (.str [99, 97])) (.nil))) (.cons (.cst (.str [])) (.nil))))) (.cons (.tup (.cons (.cst (.str [97])) (.cons (.cst (.str [99, 97])) (.cons (.cst (.str [98])) (.cons (.cst (.str [99])) (.nil)))))) (.cons (.cst (.str [99, 97, 98])) (.cons (.cst (.str [99, 98])) (.nil)))))) (.cst (.str [97, 104, 101, 97, 100]))) (.seq (.ret (.cst (.bl false))) (.nop)) (.nop)) (.seq (.ret (.bin (.eq) (.cal 65 (.cons (.tup (.cons (.cst (.int 3)) (.cons (.tup (.nil)) (.cons (.cst (.str [])) (.nil))))) (.cons (.tup (.cons (.cst (.str [99])) (.cons (.cst (.str [97])) (.cons (.cst (.str [98])) (.nil))))) (.cons (.tup (.cons (.cst (.str [98])) (.cons (.cst (.str [97, 98])) (.cons (.cst (.str [99, 97])) (.cons (.cst (.str [98])) (.cons (.cst (.str [])) (.nil))))))) (.nil))))) (.lst (.cons (.cst (.str [])) (.cons (.cst (.str [99, 97])) (.cons (.cst (.str [97, 98])) (.cons (.cst (.str [98])) (.cons (.cst (.str [98])) (.nil))))))))) (.nop)))))) }
def f70 : FI := { ar := 3, nl := 4, body := .seq (.exp (.cal 3 (.cons (.var 0) (.nil)))) (.seq (.exp (.cal 6 (.cons (.var 0) (.cons (.var 1) (.nil))))) (.seq (.exp (.cal 6 (.cons (.var 0) (.cons (.var 2) (.nil))))) (.seq (.asg 3 (.cal 60 (.cons (.var 0) (.cons (.var 1) (.cons (.var 2) (.nil)))))) (.seq (.ret (.ite (.bin (.is) (.var 3) (.cst (.non))) (.cst (.bl false)) (.var 3))) (.nop))))) }
def f71 : FI := { ar := 1, nl := 15, body := .seq (.for [1] (.irng (.pri (.max2) (.cons (.cst (.int 6)) (.cons (.pri (.min2) (.cons (.cst (.int 14)) (.cons (.pri (.len) (.cons (.var 0) (.nil))) (.nil)))) (.nil))))) (.seq (.asg 4 (.cal 13 (.cons (.var 0) (.cons (.var 1) (.nil))))) (.seq (.asg 5 (.cal 24 (.cons (.var 4) (.nil)))) (.seq (.par [10, 11] (.cons (.cal 22 (.cons (.var 5) (.nil))) (.cons (.cal 48 (.cons (.var 4) (.cons (.var 5) (.cons (.cst (.int 6)) (.nil))))) (.nil)))) (.seq (.for [6] (.iseq (.var 11)) (.seq (.for [12] (.iseq (.slc (.var 11) (.nil) (.cons (.cst (.int 3)) (.nil)) false)) (.seq (.asg 13 (.com (.cal 67 (.cons (.var 5) (.cons (.var 14) (.cons (.var 6) (.cons (.var 12) (.nil)))))) [14] (.iseq (.var 10)) (.cst (.bl true)) [14])) (.seq (.asg 2 (.cal 70 (.cons (.var 5) (.cons (.var 6) (.cons (.var 12) (.nil)))))) (.seq (.ifs (.or (.bin (.notin) (.cst (.bl true)) (.var 13)) (.bin (.notin) (.cst (.bl false)) (.var 13))) (.seq (.ifs (.not (.cal 17 (.cons (.var 2) (.cons (.bin (.idx) (.var 13) (.cst (.int 0))) (.nil))))) (.seq (.ret (.cst (.bl false))) (.nop)) (.nop)) (.nop)) (.seq (.ifs (.or (.not (.pri (.isi (.tuple)) (.cons (.var 2) (.nil)))) (.bin (.ne) (.pri (.len) (.cons (.var 2) (.nil))) (.cst (.int 2)))) (.seq (.ret (.cst (.bl false))) (.nop)) (.seq (.ifs (.bin (.ne) (.com (.bin (.lt) (.mth (.index) (.var 14) (.cons (.bin (.idx) (.var 2) (.cst (.int 0))) (.nil))) (.mth (.index) (.var 14) (.cons (.bin (.idx) (.var 2) (.cst (.int 1))) (.nil)))) [14] (.iseq (.var 10)) (.cst (.bl true)) [14]) (.var 13)) (.seq (.ret (.cst (.bl false))) (.nop)) (.nop)) (.nop))) (.nop))) (.nop))))) (.nop))) (.seq (.for [7] (.iseq (.lst (.cons (.cst (.non)) (.cons (.cst (.str [122])) (.cons (.bin (.mul) (.cst (.str [97])) (.cst (.int 9))) (.cons (.tup (.cons (.cst (.str [97])) (.nil))) (.nil))))))) (.seq (.ifs (.bin (.ne) (.lam (.cal 70 (.cons (.var 5) (.cons (.var 7) (.cons (.cst (.non)) (.nil)))))) (.cst (.str [119, 111, 114, 100, 32, 118, 97, 108, 117, 101]))) (.seq (.ret (.cst (.bl false))) (.nop)) (.nop)) (.seq (.ifs (.bin (.ne) (.lam (.cal 70 (.cons (.var 5) (.cons (.cst (.str [97])) (.cons (.var 7) (.nil)))))) (.cst (.str [119, 111, 114, 100, 32, 118, 97, 108, 117, 101]))) (.seq (.ret (.cst (.bl false))) (.nop)) (.nop)) (.nop)))) (.nop))))))) (.seq (.unp [8, 9] (.tup (.cons (.tup (.cons (.cst (.int 3)) (.cons (.tup (.nil)) (.cons (.cst (.str [])) (.nil))))) (.cons (.tup (.cons (.cst (.int 3)) (.cons (.tup (.nil)) (.cons (.cst (.str [98])) (.nil))))) (.nil))))) (.seq (.asg 2 (.lst (.cons (.cal 70 (.cons (.var 8) (.cons (.cst (.str [99, 97])) (.cons (.cst (.str [99, 97, 98])) (.nil))))) (.cons (.cal 70 (.cons (.var 8) (.cons (.cst (.str [99, 97])) (.cons (.cst (.str [99, 97])) (.nil))))) (.cons (.cal 70 (.cons (.var 8) (.cons (.cst (.str [99, 97, 98])) (.cons (.cst (.str [99, 97])) (.nil))))) (.nil)))))) (.seq (.asg 2 (.bin (.add) (.var 2) (.lst (.cons (.cal 70 (.cons (.tup (.cons (.cst (.int 3)) (.cons (.tup (.cons (.cst (.str [99, 97])) (.nil))) (.cons (.cst (.str [])) (.nil))))) (.cons (.cst (.str [99, 97, 98])) (.cons (.cst (.str [99, 98])) (.nil))))) (.cons (.cal 70 (.cons (.var 9) (.cons (.cst (.str [98, 97, 98])) (.cons (.cst (.str [97, 98])) (.nil))))) (.cons (.cal 70 (.cons (.var 9) (.cons (.cst (.str [98, 98, 97])) (.cons (.cst (.str [98, 97, 98])) (.nil))))) (.nil))))))) (.seq (.asg 3 (.lst (.cons (.cst (.bl true)) (.cons (.cst (.bl false)) (.cons (.cst (.bl false)) (.cons (.tup (.cons (.cst (.str [99, 97])) (.cons (.cst (.str [99])) (.nil)))) (.cons (.tup (.cons (.cst (.str [98])) (.cons (.cst (.str [97])) (.nil)))) (.cons (.tup (.cons (.cst (.str [98])) (.cons (.cst (.str [97])) (.nil)))) (.nil))))))))) (.seq (.ret (.and (.bin (.eq) (.var 2) (.var 3)) (.and (.bin (.is) (.cal 70 (.cons (.var 9) (.cons (.cst (.str [98, 98, 98])) (.cons (.cst (.str [97])) (.nil))))) (.cst (.bl true))) (.bin (.is) (.cal 70 (.cons (.var 9) (.cons (.cst (.str [98, 98])) (.cons (.cst (.str [98])) (.nil))))) (.cst (.bl false)))))) (.nop)))))) }
def f72 : FI := { ar := 1, nl := 6, body := .seq (.unp [2, 3] (.tup (.cons (.pri (.sorted) (.cons (.cal 4 (.cons (.var 0) (.nil))) (.nil))) (.cons (.lst (.cons (.tup (.nil)) (.nil))) (.nil))))) (.seq (.for [1] (.irng (.pri (.len) (.cons (.var 2) (.nil)))) (.seq (.asg 3 (.co2 (.bin (.add) (.var 4) (.tup (.cons (.var 5) (.nil)))) [4] (.iseq (.var 3)) [5] (.iseq (.var 2)) (.bin (.notin) (.var 5) (.var 4)) [5] [4, 5])) (.nop))) (.seq (.ret (.var 3)) (.nop))) }
def f73 : FI := { ar := 3, nl := 4, body := .seq (.ret (.bin (.eq) (.com (.var 3) [3] (.irng (.bin (.sub) (.pri (.len) (.cons (.var 2) (.nil))) (.cst (.int 1)))) (.cal 61 (.cons (.var 0) (.cons (.var 1) (.cons (.bin (.idx) (.var 2) (.bin (.add) (.var 3) (.cst (.int 1)))) (.cons (.bin (.idx) (.var 2) (.var 3)) (.nil)))))) [3]) (.lst (.nil)))) (.nop) }
def f74 : FI := { ar := 2, nl := 2, body := .seq (.ifs (.not (.cal 34 (.cons (.var 0) (.cons (.var 1) (.nil))))) (.seq (.rse 4) (.nop)) (.nop)) (.nop) }
def f75 : FI := { ar := 2, nl := 2, body := .seq (.ifs (.not (.cal 33 (.cons (.var 0) (.cons (.var 1) (.nil))))) (.seq (.rse 4) (.nop)) (.nop)) (.nop) }
def f76 : FI := { ar := 3, nl := 4, body := .seq (.ret (.bin (.eq) (.com (.var 3) [3] (.irng (.bin (.sub) (.pri (.len) (.cons (.var 2) (.nil))) (.cst (.int 1)))) (.not (.cal 61 (.cons (.var 0) (.cons (.var 1) (.cons (.bin (.idx) (.var 2) (.var 3)) (.cons (.bin (.idx) (.var 2) (.bin (.add) (.var 3) (.cst (.int 1)))) (.nil))))))) [3]) (.lst (.nil)))) (.nop) }
def f77 : FI := { ar := 3, nl := 4, body := .seq (.ifs (.bin (.eq) (.bin (.idx) (.var 2) (.cst (.int 0))) (.cst (.str [115, 111, 114, 116, 101, 100]))) (.seq (.ret (.cal 73 (.cons (.var 0) (.cons (.var 1) (.cons (.bin (.idx) (.var 2) (.cst (.int 1))) (.nil)))))) (.nop)) (.nop)) (.seq (.asg 3 (.cal 76 (.cons (.var 0) (.cons (.var 1) (.cons (.slc (.var 2) (.cons (.cst (.int 1)) (.nil)) (.nil) false) (.nil)))))) (.seq (.ifs (.bin (.eq) (.bin (.idx) (.var 2) (.cst (.int 0))) (.cst (.str [98, 101, 116, 119, 101, 101, 110]))) (.seq (.ret (.or (.var 3) (.cal 76 (.cons (.var 0) (.cons (.var 1) (.cons (.slc (.var 2) (.nil) (.cons (.cst (.int 0)) (.nil)) true) (.nil))))))) (.nop)) (.nop)) (.seq (.ret (.var 3)) (.nop)))) }
def f78 : FI := { ar := 3, nl := 4, body := .seq (.ret (.bin (.eq) (.com (.var 3) [3] (.iseq (.var 2)) (.not (.cal 77 (.cons (.var 0) (.cons (.var 1) (.cons (.var 3) (.nil)))))) [3]) (.lst (.nil)))) (.nop) }
def f79 : FI := { ar := 2, nl := 3, body := .seq (.ret (.com (.var 2) [2] (.iseq (.cal 72 (.cons (.var 0) (.nil)))) (.cal 78 (.cons (.var 0) (.cons (.var 2) (.cons (.var 1) (.nil))))) [2])) (.nop) }
def f80 : FI := { ar := 3, nl := 5, body := .seq (.asg 3 (.com (.var 4) [4] (.iseq (.var 1)) (.cal 77 (.cons (.var 0) (.cons (.var 4) (.cons (.var 2) (.nil))))) [4])) (.seq (.ifs (.or (.bin (.eq) (.var 1) (.lst (.nil))) (.and (.bin (.ne) (.var 3) (.lst (.nil))) (.bin (.lt) (.pri (.len) (.cons (.var 3) (.nil))) (.pri (.len) (.cons (.var 1) (.nil)))))) (.seq (.ret (.cst (.non))) (.nop)) (.nop)) (.seq (.ret (.bin (.gt) (.pri (.len) (.cons (.var 3) (.nil))) (.cst (.int 0)))) (.nop))) }
def f81 : FI := { ar := 3, nl := 3, body := .seq (.exp (.cal 3 (.cons (.var 0) (.nil)))) (.seq (.exp (.cal 74 (.cons (.var 0) (.cons (.var 1) (.nil))))) (.seq (.exp (.cal 57 (.cons (.var 0) (.cons (.var 2) (.nil))))) (.seq (.ret (.cal 78 (.cons (.var 0) (.cons (.var 2) (.cons (.var 1) (.nil)))))) (.nop)))) }
def f82 : FI := { ar := 2, nl := 2, body := .seq (.exp (.cal 3 (.cons (.var 0) (.nil)))) (.seq (.exp (.cal 74 (.cons (.var 0) (.cons (.var 1) (.nil))))) (.seq (.ret (.pri (.len) (.cons (.cal 79 (.cons (.var 0) (.cons (.var 1) (.nil)))) (.nil)))) (.nop))) }
def f83 : FI := { ar := 2, nl := 3, body := .seq (.exp (.cal 3 (.cons (.var 0) (.nil)))) (.seq (.exp (.cal 74 (.cons (.var 0) (.cons (.var 1) (.nil))))) (.seq (.asg 2 (.cal 79 (.cons (.var 0) (.cons (.var 1) (.nil))))) (.seq (.ret (.ite (.bin (.ne) (.var 2) (.lst (.nil))) (.bin (.idx) (.var 2) (.cst (.int 0))) (.cst (.non)))) (.nop)))) }
def f84 : FI := { ar := 3, nl := 3, body := .seq (.exp (.cal 3 (.cons (.var 0) (.nil)))) (.seq (.exp (.cal 74 (.cons (.var 0) (.cons (.var 1) (.nil))))) (.seq (.exp (.cal 75 (.cons (.var 0) (.cons (.var 2) (.nil))))) (.seq (.ret (.cal 80 (.cons (.var 0) (.cons (.cal 79 (.cons (.var 0) (.cons (.var 1) (.nil)))) (.cons (.var 2) (.nil)))))) (.nop)))) }
def f85 : FI := { ar := 3, nl := 7, body := .seq (.ifs (.bin (.eq) (.bin (.idx) (.var 2) (.cst (.int 0))) (.cst (.str [115, 111, 114, 116, 101, 100]))) (.seq (.asg 3 (.com (.cal 66 (.cons (.var 0) (.cons (.var 1) (.cons (.var 5) (.nil))))) [5] (.iseq (.bin (.idx) (.var 2) (.cst (.int 1)))) (.cst (.bl true)) [5])) (.seq (.ret (.bin (.eq) (.var 3) (.pri (.sorted) (.cons (.var 3) (.nil))))) (.nop))) (.nop)) (.seq (.asg 3 (.com (.cal 66 (.cons (.var 0) (.cons (.var 1) (.cons (.var 5) (.nil))))) [5] (.iseq (.slc (.var 2) (.cons (.cst (.int 1)) (.nil)) (.nil) false)) (.cst (.bl true)) [5])) (.seq (.asg 4 (.bin (.eq) (.com (.var 6) [6] (.irng (.bin (.sub) (.pri (.len) (.cons (.var 3) (.nil))) (.cst (.int 1)))) (.not (.bin (.lt) (.bin (.idx) (.var 3) (.var 6)) (.bin (.idx) (.var 3) (.bin (.add) (.var 6) (.cst (.int 1)))))) [6]) (.lst (.nil)))) (.seq (.ifs (.bin (.eq) (.bin (.idx) (.var 2) (.cst (.int 0))) (.cst (.str [97, 104, 101, 97, 100]))) (.seq (.ret (.var 4)) (.nop)) (.nop)) (.seq (.ret (.or (.var 4) (.chn (.lt) (.lt) (.bin (.idx) (.var 3) (.cst (.int 2))) (.bin (.idx) (.var 3) (.cst (.int 1))) (.bin (.idx) (.var 3) (.cst (.int 0)))))) (.nop))))) }
def f86 : FI := { ar := 2, nl := 5, body := .seq (.asg 2 (.mut (.lst (.nil)))) (.seq (.for [3] (.iseq (.cal 22 (.cons (.var 0) (.nil)))) (.seq (.ifs (.bin (.eq) (.com (.var 4) [4] (.iseq (.var 1)) (.not (.cal 85 (.cons (.var 0) (.cons (.var 3) (.cons (.var 4) (.nil)))))) [4]) (.lst (.nil))) (.seq (.exp (.mth (.append) (.var 2) (.cons (.var 3) (.nil)))) (.nop)) (.nop)) (.nop))) (.seq (.ret (.var 2)) (.nop))) }
def f87 : FI := { ar := 3, nl := 5, body := .seq (.asg 3 (.com (.cal 85 (.cons (.var 0) (.cons (.var 4) (.cons (.var 2) (.nil))))) [4] (.iseq (.var 1)) (.cst (.bl true)) [4])) (.seq (.ifs (.or (.bin (.eq) (.var 3) (.lst (.nil))) (.and (.bin (.inn) (.cst (.bl true)) (.var 3)) (.bin (.inn) (.cst (.bl false)) (.var 3)))) (.seq (.ret (.cst (.non))) (.nop)) (.nop)) (.seq (.ret (.bin (.idx) (.var 3) (.cst (.int 0)))) (.nop))) }
def f88 : FI := { ar := 3, nl := 7, body := .seq (.par [4, 5] (.cons (.cal 15 (.cons (.var 0) (.cons (.cal 22 (.cons (.var 1) (.nil))) (.nil)))) (.cons (.tup (.nil)) (.nil)))) (.seq (.for [3] (.irng (.cal 14 (.cons (.var 0) (.cons (.bin (.add) (.var 2) (.cst (.int 1))) (.nil))))) (.seq (.asg 6 (.cal 49 (.cons (.var 0) (.cons (.var 1) (.nil))))) (.seq (.ifs (.and (.bin (.eq) (.bin (.idx) (.var 6) (.cst (.int 0))) (.cst (.str [115, 111, 114, 116, 101, 100]))) (.bin (.gt) (.cal 14 (.cons (.var 0) (.cons (.cst (.int 4)) (.nil)))) (.cst (.int 0)))) (.seq (.asg 6 (.tup (.cons (.bin (.idx) (.var 6) (.cst (.int 0))) (.cons (.cal 68 (.cons (.var 1) (.cons (.var 4) (.cons (.bin (.idx) (.var 6) (.cst (.int 1))) (.nil))))) (.nil))))) (.nop)) (.nop)) (.seq (.ifs (.or (.cal 85 (.cons (.var 1) (.cons (.var 4) (.cons (.var 6) (.nil))))) (.bin (.eq) (.cal 14 (.cons (.var 0) (.cons (.cst (.int 6)) (.nil)))) (.cst (.int 0)))) (.seq (.asg 5 (.bin (.add) (.var 5) (.tup (.cons (.var 6) (.nil))))) (.nop)) (.nop)) (.nop))))) (.seq (.ret (.var 5)) (.nop))) }
def f89 : FI := { ar := 0, nl := 5, body := .seq (.unp [2, 3] (.tup (.cons (.tup (.cons (.cst (.int 3)) (.cons (.tup (.nil)) (.cons (.cst (.str [])) (.nil))))) (.cons (.tup (.cons (.cst (.str [115, 111, 114, 116, 101, 100])) (.cons (.tup (.cons (.cst (.str [98])) (.cons (.cst (.str [99, 97])) (.cons (.cst (.str [99, 97, 98])) (.nil))))) (.nil)))) (.nil))))) (.seq (.asg 0 (.tup (.cons (.tup (.cons (.cst (.str [97, 104, 101, 97, 100])) (.cons (.cst (.str [97, 98])) (.cons (.cst (.str [98, 97])) (.nil))))) (.cons (.tup (.cons (.cst (.str [98, 101, 116, 119, 101, 101, 110])) (.cons (.cst (.str [98])) (.cons (.cst (.str [99])) (.cons (.cst (.str [97])) (.nil)))))) (.nil))))) (.seq (.ifs (.bin (.ne) (.lst (.cons (.cal 82 (.cons (.var 2) (.cons (.tup (.cons (.var 3) (.nil))) (.nil)))) (.cons (.cal 82 (.cons (.var 2) (.cons (.var 0) (.nil)))) (.nil)))) (.lst (.cons (.cst (.int 3)) (.cons (.cst (.int 1)) (.nil))))) (.seq (.ret (.cst (.bl false))) (.nop)) (.nop)) (.seq (.ifs (.bin (.ne) (.cal 82 (.cons (.tup (.cons (.cst (.int 5)) (.cons (.tup (.cons (.cst (.str [97, 98])) (.nil))) (.cons (.cst (.str [])) (.nil))))) (.cons (.tup (.nil)) (.nil)))) (.cst (.int 720))) (.seq (.ret (.cst (.bl false))) (.nop)) (.nop)) (.seq (.ifs (.or (.bin (.ne) (.cal 83 (.cons (.var 2) (.cons (.var 0) (.nil)))) (.tup (.cons (.cst (.str [97])) (.cons (.cst (.str [99])) (.cons (.cst (.str [98])) (.nil)))))) (.bin (.isnot) (.cal 83 (.cons (.var 2) (.cons (.tup (.cons (.var 3) (.cons (.tup (.cons (.cst (.str [97, 104, 101, 97, 100])) (.cons (.cst (.str [99])) (.cons (.cst (.str [98])) (.nil))))) (.nil)))) (.nil)))) (.cst (.non)))) (.seq (.ret (.cst (.bl false))) (.nop)) (.nop)) (.seq (.ifs (.bin (.isnot) (.cal 84 (.cons (.var 2) (.cons (.tup (.cons (.var 3) (.cons (.tup (.cons (.cst (.str [97, 104, 101, 97, 100])) (.cons (.cst (.str [99])) (.cons (.cst (.str [98])) (.nil))))) (.nil)))) (.cons (.var 3) (.nil))))) (.cst (.non))) (.seq (.ret (.cst (.bl false))) (.nop)) (.nop)) (.seq (.asg 1 (.lst (.cons (.tup (.cons (.cst (.str [97, 104, 101, 97, 100])) (.cons (.cst (.str [98, 98])) (.cons (.cst (.str [99])) (.nil))))) (.cons (.tup (.cons (.cst (.str [97, 104, 101, 97, 100])) (.cons (.cst (.str [99])) (.cons (.cst (.str [98, 97])) (.nil))))) (.cons (.tup (.cons (.cst (.str [97, 104, 101, 97, 100])) (.cons (.cst (.str [97])) (.cons (.cst (.str [98])) (.nil))))) (.cons (.tup (.cons (.cst (.str [97, 104, 101, 97, 100])) (.cons (.cst (.str [])) (.cons (.cst (.str [97])) (.nil))))) (.cons (.tup (.cons (.cst (.str [97, 104, 101, 97, 100])) (.cons (.cst (.str [97])) (.cons (.cst (.str [97])) (.nil))))) (.nil)))))))) (.seq (.ret (.bin (.eq) (.com (.cal 84 (.cons (.var 2) (.cons (.tup (.cons (.var 3) (.nil))) (.cons (.var 4) (.nil))))) [4] (.iseq (.var 1)) (.cst (.bl true)) [4]) (.lst (.cons (.cst (.bl true)) (.cons (.cst (.bl false)) (.cons (.cst (.non)) (.cons (.cst (.bl true)) (.cons (.cst (.bl false)) (.nil))))))))) (.nop)))))))) }
def f90 : FI := { ar := 1, nl := 13, body := .seq (.for [1] (.irng (.pri (.max2) (.cons (.cst (.int 5)) (.cons (.pri (.min2) (.cons (.cst (.int 12)) (.cons (.pri (.len) (.cons (.var 0) (.nil))) (.nil)))) (.nil))))) (.seq (.asg 2 (.cal 13 (.cons (.var 0) (.cons (.var 1) (.nil))))) (.seq (.asg 3 (.cal 24 (.cons (.var 2) (.nil)))) (.seq (.for [4] (.irng (.cst (.int 3))) (.seq (.asg 6 (.cal 88 (.cons (.var 2) (.cons (.var 3) (.cons (.cst (.int 4)) (.nil)))))) (.seq (.asg 7 (.cal 86 (.cons (.var 3) (.cons (.var 6) (.nil))))) (.seq (.ifs (.bin (.ne) (.cal 82 (.cons (.var 3) (.cons (.var 6) (.nil)))) (.pri (.len) (.cons (.var 7) (.nil)))) (.seq (.ret (.cst (.bl false))) (.nop)) (.nop)) (.seq (.ifs (.bin (.ne) (.cal 83 (.cons (.var 3) (.cons (.var 6) (.nil)))) (.ite (.bin (.ne) (.var 7) (.lst (.nil))) (.bin (.idx) (.var 7) (.cst (.int 0))) (.cst (.non)))) (.seq (.ret (.cst (.bl false))) (.nop)) (.nop)) (.seq (.for [8] (.irng (.cst (.int 4))) (.seq (.par [9, 10] (.cons (.cal 15 (.cons (.var 2) (.cons (.cal 22 (.cons (.var 3) (.nil))) (.nil)))) (.cons (.cal 49 (.cons (.var 2) (.cons (.var 3) (.nil)))) (.nil)))) (.seq (.ifs (.not (.cal 17 (.cons (.cal 81 (.cons (.var 3) (.cons (.var 6) (.cons (.var 9) (.nil))))) (.cons (.bin (.inn) (.var 9) (.var 7)) (.nil))))) (.seq (.ret (.cst (.bl false))) (.nop)) (.nop)) (.seq (.par [11, 12] (.cons (.cal 87 (.cons (.var 3) (.cons (.var 7) (.cons (.var 10) (.nil))))) (.cons (.cal 84 (.cons (.var 3) (.cons (.var 6) (.cons (.var 10) (.nil))))) (.nil)))) (.seq (.ifs (.or (.bin (.ne) (.bin (.is) (.var 12) (.cst (.non))) (.bin (.is) (.var 11) (.cst (.non)))) (.and (.bin (.isnot) (.var 11) (.cst (.non))) (.not (.cal 17 (.cons (.var 12) (.cons (.var 11) (.nil))))))) (.seq (.ret (.cst (.bl false))) (.nop)) (.nop)) (.nop)))))) (.nop))))))) (.seq (.for [5] (.iseq (.lst (.cons (.cst (.non)) (.cons (.lst (.nil)) (.cons (.tup (.cons (.cst (.non)) (.nil))) (.cons (.tup (.cons (.tup (.cons (.cst (.str [97, 104, 101, 97, 100])) (.cons (.cst (.str [97])) (.nil)))) (.nil))) (.cons (.tup (.cons (.tup (.cons (.cst (.str [97, 104, 101, 97, 100])) (.cons (.cst (.str [97])) (.cons (.cst (.str [122])) (.nil))))) (.nil))) (.cons (.bin (.mul) (.tup (.cons (.tup (.cons (.cst (.str [97, 104, 101, 97, 100])) (.cons (.cst (.str [97])) (.cons (.cst (.str [98])) (.nil))))) (.nil))) (.cst (.int 6))) (.nil))))))))) (.seq (.ifs (.bin (.ne) (.lam (.cal 82 (.cons (.var 3) (.cons (.var 5) (.nil))))) (.cst (.str [102, 97, 99, 116, 115, 32, 118, 97, 108, 117, 101]))) (.seq (.ret (.cst (.bl false))) (.nop)) (.nop)) (.seq (.ifs (.bin (.ne) (.lam (.cal 81 (.cons (.var 3) (.cons (.var 5) (.cons (.cst (.non)) (.nil)))))) (.cst (.str [102, 97, 99, 116, 115, 32, 118, 97, 108, 117, 101]))) (.seq (.ret (.cst (.bl false))) (.nop)) (.nop)) (.nop)))) (.seq (.for [5] (.iseq (.lst (.cons (.cst (.non)) (.cons (.tup (.nil)) (.cons (.tup (.cons (.tup (.cons (.cst (.str [97, 104, 101, 97, 100])) (.cons (.cst (.str [97])) (.cons (.cst (.str [98])) (.nil))))) (.nil))) (.cons (.tup (.cons (.cst (.str [115, 111, 114, 116, 101, 100])) (.cons (.tup (.cons (.cst (.str [97])) (.nil))) (.nil)))) (.nil))))))) (.seq (.ifs (.bin (.ne) (.lam (.cal 84 (.cons (.var 3) (.cons (.tup (.nil)) (.cons (.var 5) (.nil)))))) (.cst (.str [102, 97, 99, 116, 115, 32, 118, 97, 108, 117, 101]))) (.seq (.ret (.cst (.bl false))) (.nop)) (.nop)) (.nop))) (.nop))))))) (.seq (.ret (.cal 89 (.nil))) (.nop)) }
def f91 : FI := { ar := 4, nl := 5, body := .seq (.ret (.pri (.len) (.cons (.com (.var 4) [4] (.iseq (.var 2)) (.cal 61 (.cons (.var 0) (.cons (.var 1) (.cons (.var 4) (.cons (.var 3) (.nil)))))) [4]) (.nil)))) (.nop) }
def f92 : FI := { ar := 4, nl := 5, body := .seq (.exp (.cal 3 (.cons (.var 0) (.nil)))) (.seq (.exp (.cal 74 (.cons (.var 0) (.cons (.var 1) (.nil))))) (.seq (.exp (.cal 56 (.cons (.var 0) (.cons (.var 2) (.nil))))) (.seq (.exp (.cal 6 (.cons (.var 0) (.cons (.var 3) (.nil))))) (.seq (.ret (.pri (.sortset) (.cons (.com (.cal 91 (.cons (.var 0) (.cons (.var 4) (.cons (.var 2) (.cons (.var 3) (.nil)))))) [4] (.iseq (.cal 79 (.cons (.var 0) (.cons (.var 1) (.nil))))) (.cst (.bl true)) [4]) (.nil)))) (.nop))))) }
def f93 : FI := { ar := 3, nl := 4, body := .seq (.exp (.cal 3 (.cons (.var 0) (.nil)))) (.seq (.exp (.cal 74 (.cons (.var 0) (.cons (.var 1) (.nil))))) (.seq (.exp (.cal 56 (.cons (.var 0) (.cons (.var 2) (.nil))))) (.seq (.ret (.pri (.sortset) (.cons (.com (.cal 64 (.cons (.var 0) (.cons (.var 3) (.cons (.var 2) (.nil))))) [3] (.iseq (.cal 79 (.cons (.var 0) (.cons (.var 1) (.nil))))) (.cst (.bl true)) [3]) (.nil)))) (.nop)))) }
def f94 : FI := { ar := 1, nl := 15, body := .seq (.for [1] (.irng (.pri (.max2) (.cons (.cst (.int 5)) (.cons (.pri (.min2) (.cons (.cst (.int 12)) (.cons (.pri (.len) (.cons (.var 0) (.nil))) (.nil)))) (.nil))))) (.seq (.asg 3 (.cal 13 (.cons (.var 0) (.cons (.var 1) (.nil))))) (.seq (.asg 4 (.cal 24 (.cons (.var 3) (.nil)))) (.seq (.for [5] (.irng (.cst (.int 3))) (.seq (.unp [8, 11] (.tup (.cons (.cal 88 (.cons (.var 3) (.cons (.var 4) (.cons (.cst (.int 3)) (.nil))))) (.cons (.cal 48 (.cons (.var 3) (.cons (.var 4) (.cons (.cal 14 (.cons (.var 3) (.cons (.cst (.int 6)) (.nil)))) (.nil))))) (.nil))))) (.seq (.unp [12, 13] (.tup (.cons (.cal 86 (.cons (.var 4) (.cons (.var 8) (.nil)))) (.cons (.cal 25 (.cons (.var 3) (.cons (.var 4) (.cons (.cst (.int 4)) (.nil))))) (.nil))))) (.seq (.asg 9 (.mut (.lst (.nil)))) (.seq (.for [10] (.iseq (.var 12)) (.seq (.exp (.mth (.append) (.var 9) (.cons (.pri (.len) (.cons (.com (.var 14) [14] (.iseq (.var 11)) (.cal 67 (.cons (.var 4) (.cons (.var 10) (.cons (.var 14) (.cons (.var 13) (.nil)))))) [14]) (.nil))) (.nil)))) (.nop))) (.seq (.ifs (.bin (.ne) (.cal 92 (.cons (.var 4) (.cons (.var 8) (.cons (.var 11) (.cons (.var 13) (.nil)))))) (.pri (.sortset) (.cons (.var 9) (.nil)))) (.seq (.ret (.cst (.bl false))) (.nop)) (.nop)) (.seq (.asg 9 (.pri (.sortset) (.cons (.com (.cal 68 (.cons (.var 4) (.cons (.var 10) (.cons (.var 11) (.nil))))) [10] (.iseq (.var 12)) (.cst (.bl true)) [10]) (.nil)))) (.seq (.ifs (.bin (.ne) (.cal 93 (.cons (.var 4) (.cons (.var 8) (.cons (.var 11) (.nil))))) (.var 9)) (.seq (.ret (.cst (.bl false))) (.nop)) (.nop)) (.nop))))))))) (.seq (.for [6] (.iseq (.lst (.cons (.cst (.non)) (.cons (.lst (.cons (.cst (.str [97])) (.nil))) (.cons (.bin (.mul) (.tup (.cons (.cst (.str [97])) (.nil))) (.cst (.int 9))) (.cons (.tup (.cons (.cst (.str [122])) (.nil))) (.cons (.cst (.str [97])) (.nil)))))))) (.seq (.ifs (.bin (.ne) (.lam (.cal 92 (.cons (.var 4) (.cons (.tup (.nil)) (.cons (.var 6) (.cons (.cst (.non)) (.nil))))))) (.cst (.str [119, 111, 114, 100, 115, 32, 118, 97, 108, 117, 101]))) (.seq (.ret (.cst (.bl false))) (.nop)) (.nop)) (.seq (.ifs (.bin (.ne) (.lam (.cal 93 (.cons (.var 4) (.cons (.tup (.nil)) (.cons (.var 6) (.nil)))))) (.cst (.str [119, 111, 114, 100, 115, 32, 118, 97, 108, 117, 101]))) (.seq (.ret (.cst (.bl false))) (.nop)) (.nop)) (.nop)))) (.seq (.ifs (.bin (.ne) (.lam (.cal 92 (.cons (.var 4) (.cons (.tup (.nil)) (.cons (.tup (.nil)) (.cons (.cst (.non)) (.nil))))))) (.cst (.str [119, 111, 114, 100, 32, 118, 97, 108, 117, 101]))) (.seq (.ret (.cst (.bl false))) (.nop)) (.nop)) (.nop))))))) (.seq (.unp [7, 8] (.tup (.cons (.tup (.cons (.cst (.int 3)) (.cons (.tup (.nil)) (.cons (.cst (.str [])) (.nil))))) (.cons (.tup (.cons (.tup (.cons (.cst (.str [115, 111, 114, 116, 101, 100])) (.cons (.tup (.cons (.cst (.str [98])) (.cons (.cst (.str [99, 97])) (.cons (.cst (.str [99, 97, 98])) (.nil))))) (.nil)))) (.nil))) (.nil))))) (.seq (.asg 2 (.tup (.cons (.cst (.str [97])) (.cons (.cst (.str [97, 98])) (.cons (.cst (.str [98])) (.nil)))))) (.seq (.ifs (.or (.bin (.ne) (.cal 92 (.cons (.var 7) (.cons (.tup (.nil)) (.cons (.var 2) (.cons (.cst (.str [99])) (.nil)))))) (.lst (.cons (.cst (.int 0)) (.cons (.cst (.int 1)) (.cons (.cst (.int 2)) (.cons (.cst (.int 3)) (.nil))))))) (.bin (.ne) (.cal 92 (.cons (.var 7) (.cons (.var 8) (.cons (.var 2) (.cons (.cst (.str [99])) (.nil)))))) (.lst (.cons (.cst (.int 1)) (.cons (.cst (.int 3)) (.nil)))))) (.seq (.ret (.cst (.bl false))) (.nop)) (.nop)) (.seq (.ifs (.bin (.ne) (.cal 92 (.cons (.var 7) (.cons (.tup (.nil)) (.cons (.tup (.cons (.cst (.str [97])) (.cons (.cst (.str [97])) (.cons (.cst (.str [])) (.nil))))) (.cons (.cst (.str [97])) (.nil)))))) (.lst (.cons (.cst (.int 1)) (.nil)))) (.seq (.ret (.cst (.bl false))) (.nop)) (.nop)) (.seq (.ifs (.bin (.ne) (.cal 93 (.cons (.var 7) (.cons (.var 8) (.cons (.tup (.cons (.cst (.str [97])) (.cons (.cst (.str [98])) (.cons (.cst (.str [99])) (.nil))))) (.nil))))) (.lst (.cons (.tup (.cons (.cst (.str [97])) (.cons (.cst (.str [98])) (.cons (.cst (.str [99])) (.nil))))) (.cons (.tup (.cons (.cst (.str [98])) (.cons (.cst (.str [97])) (.cons (.cst (.str [99])) (.nil))))) (.cons (.tup (.cons (.cst (.str [98])) (.cons (.cst (.str [99])) (.cons (.cst (.str [97])) (.nil))))) (.nil)))))) (.seq (.ret (.cst (.bl false))) (.nop)) (.nop)) (.seq (.ret (.and (.bin (.eq) (.cal 93 (.cons (.var 7) (.cons (.bin (.add) (.var 8) (.tup (.cons (.tup (.cons (.cst (.str [97, 104, 101, 97, 100])) (.cons (.cst (.str [99])) (.cons (.cst (.str [98])) (.nil))))) (.nil)))) (.cons (.tup (.cons (.cst (.str [97])) (.nil))) (.nil))))) (.lst (.nil))) (.bin (.eq) (.cal 93 (.cons (.var 7) (.cons (.tup (.nil)) (.cons (.tup (.nil)) (.nil))))) (.lst (.cons (.tup (.nil)) (.nil)))))) (.nop))))))) }
def f95 : FI := { ar := 2, nl := 2, body := .seq (.ifs (.not (.cal 32 (.cons (.var 0) (.cons (.var 1) (.cons (.cst (.int 2)) (.cons (.cst (.int 6)) (.nil))))))) (.seq (.rse 3) (.nop)) (.nop)) (.nop) }
def f96 : FI := { ar := 2, nl := 4, body := .seq (.ret (.com (.cal 60 (.cons (.var 0) (.cons (.var 2) (.cons (.var 3) (.nil))))) [2, 3] (.izip (.var 1) (.slc (.var 1) (.cons (.cst (.int 1)) (.nil)) (.nil) false)) (.cst (.bl true)) [2, 3])) (.nop) }
def f97 : FI := { ar := 1, nl := 6, body := .seq (.par [2, 3] (.cons (.lst (.nil)) (.cons (.lst (.cons (.tup (.nil)) (.nil))) (.nil)))) (.seq (.for [1] (.irng (.var 0)) (.seq (.asg 3 (.co2 (.bin (.add) (.var 4) (.tup (.cons (.var 5) (.nil)))) [4] (.iseq (.var 3)) [5] (.irng (.var 0)) (.bin (.notin) (.var 5) (.var 4)) [5] [4, 5])) (.seq (.asg 2 (.bin (.add) (.var 2) (.var 3))) (.nop)))) (.seq (.ret (.var 2)) (.nop))) }
def f98 : FI := { ar := 2, nl := 5, body := .seq (.asg 2 (.com (.bin (.idx) (.var 0) (.var 3)) [3] (.iseq (.var 1)) (.cst (.bl true)) [3])) (.seq (.ifs (.bin (.eq) (.pri (.len) (.cons (.var 2) (.nil))) (.cst (.int 1))) (.seq (.ret (.bin (.is) (.bin (.idx) (.var 2) (.cst (.int 0))) (.cst (.bl false)))) (.nop)) (.nop)) (.seq (.ifs (.bin (.ne) (.com (.var 4) [4] (.iseq (.var 2)) (.or (.bin (.is) (.var 4) (.cst (.non))) (.pri (.isi (.bool)) (.cons (.var 4) (.nil)))) [4]) (.lst (.nil))) (.seq (.ret (.cst (.bl false))) (.nop)) (.nop)) (.seq (.ret (.bin (.eq) (.com (.var 3) [3] (.irng (.pri (.len) (.cons (.var 2) (.nil)))) (.bin (.ne) (.bin (.idx) (.bin (.idx) (.var 2) (.bin (.sub) (.var 3) (.cst (.int 1)))) (.cst (.int 1))) (.bin (.idx) (.bin (.idx) (.var 2) (.var 3)) (.cst (.int 0)))) [3]) (.lst (.nil)))) (.nop)))) }
def f99 : FI := { ar := 2, nl := 4, body := .seq (.exp (.cal 3 (.cons (.var 0) (.nil)))) (.seq (.exp (.cal 95 (.cons (.var 0) (.cons (.var 1) (.nil))))) (.seq (.asg 2 (.cal 96 (.cons (.var 0) (.cons (.var 1) (.nil))))) (.seq (.for [3] (.iseq (.cal 97 (.cons (.pri (.len) (.cons (.var 2) (.nil))) (.nil)))) (.seq (.ifs (.cal 98 (.cons (.var 2) (.cons (.var 3) (.nil)))) (.seq (.ret (.var 3)) (.nop)) (.nop)) (.nop))) (.seq (.ret (.cst (.non))) (.nop))))) }
def f100 : FI := { ar := 3, nl := 4, body := .seq (.exp (.cal 3 (.cons (.var 0) (.nil)))) (.seq (.exp (.cal 95 (.cons (.var 0) (.cons (.var 1) (.nil))))) (.seq (.ifs (.or (.not (.pri (.isi (.tuple)) (.cons (.var 2) (.nil)))) (.bin (.eq) (.var 2) (.tup (.nil)))) (.seq (.ret (.cst (.bl false))) (.nop)) (.nop)) (.seq (.ifs (.bin (.ne) (.com (.var 3) [3] (.iseq (.var 2)) (.not (.cal 0 (.cons (.var 3) (.cons (.cst (.int 0)) (.cons (.bin (.sub) (.pri (.len) (.cons (.var 1) (.nil))) (.cst (.int 2))) (.nil)))))) [3]) (.lst (.nil))) (.seq (.ret (.cst (.bl false))) (.nop)) (.nop)) (.seq (.ifs (.bin (.ne) (.pri (.len) (.cons (.pri (.sortset) (.cons (.var 2) (.nil))) (.nil))) (.pri (.len) (.cons (.var 2) (.nil)))) (.seq (.ret (.cst (.bl false))) (.nop)) (.nop)) (.seq (.ret (.cal 98 (.cons (.cal 96 (.cons (.var 0) (.cons (.var 1) (.nil)))) (.cons (.var 2) (.nil))))) (.nop)))))) }
def f101 : FI := { ar := 3, nl := 7, body := .seq (.ifs (.bin (.eq) (.bin (.idx) (.var 2) (.cst (.int 0))) (.cst (.str [115, 111, 114, 116, 101, 100]))) (.seq (.asg 3 (.com (.cal 66 (.cons (.var 0) (.cons (.var 1) (.cons (.var 5) (.nil))))) [5] (.iseq (.bin (.idx) (.var 2) (.cst (.int 1)))) (.cst (.bl true)) [5])) (.seq (.ret (.bin (.eq) (.var 3) (.pri (.sorted) (.cons (.var 3) (.nil))))) (.nop))) (.nop)) (.seq (.asg 3 (.com (.cal 66 (.cons (.var 0) (.cons (.var 1) (.cons (.var 5) (.nil))))) [5] (.iseq (.slc (.var 2) (.cons (.cst (.int 1)) (.nil)) (.nil) false)) (.cst (.bl true)) [5])) (.seq (.asg 4 (.bin (.eq) (.com (.var 6) [6] (.irng (.bin (.sub) (.pri (.len) (.cons (.var 3) (.nil))) (.cst (.int 1)))) (.not (.bin (.lt) (.bin (.idx) (.var 3) (.var 6)) (.bin (.idx) (.var 3) (.bin (.add) (.var 6) (.cst (.int 1)))))) [6]) (.lst (.nil)))) (.seq (.ifs (.bin (.eq) (.bin (.idx) (.var 2) (.cst (.int 0))) (.cst (.str [97, 104, 101, 97, 100]))) (.seq (.ret (.var 4)) (.nop)) (.nop)) (.seq (.ret (.or (.var 4) (.chn (.lt) (.lt) (.bin (.idx) (.var 3) (.cst (.int 2))) (.bin (.idx) (.var 3) (.cst (.int 1))) (.bin (.idx) (.var 3) (.cst (.int 0)))))) (.nop))))) }
def f102 : FI := { ar := 3, nl := 9, body := .seq (.asg 3 (.mut (.lst (.cons (.lst (.nil)) (.cons (.lst (.nil)) (.nil)))))) (.seq (.for [4, 5] (.ienu (.lst (.cons (.var 1) (.cons (.var 2) (.nil))))) (.seq (.sti (.var 3) (.var 4) (.com (.var 8) [8] (.iseq (.cal 23 (.cons (.var 0) (.cons (.var 5) (.nil))))) (.bin (.ne) (.var 8) (.bin (.idx) (.var 0) (.cst (.int 2)))) [8])) (.nop))) (.seq (.ifs (.bin (.eq) (.bin (.idx) (.var 3) (.cst (.int 0))) (.bin (.idx) (.var 3) (.cst (.int 1)))) (.seq (.asg 3 (.mut (.lst (.cons (.cal 23 (.cons (.var 0) (.cons (.var 1) (.nil)))) (.cons (.cal 23 (.cons (.var 0) (.cons (.var 2) (.nil)))) (.nil)))))) (.nop)) (.nop)) (.seq (.for [6, 7] (.izip (.bin (.idx) (.var 3) (.cst (.int 0))) (.bin (.idx) (.var 3) (.cst (.int 1)))) (.seq (.ifs (.bin (.ne) (.var 6) (.var 7)) (.seq (.ret (.tup (.cons (.var 6) (.cons (.var 7) (.nil))))) (.nop)) (.nop)) (.nop))) (.seq (.ret (.ite (.bin (.gt) (.pri (.len) (.cons (.bin (.idx) (.var 3) (.cst (.int 0))) (.nil))) (.pri (.len) (.cons (.bin (.idx) (.var 3) (.cst (.int 1))) (.nil)))) (.cst (.str [110, 101, 118, 101, 114])) (.cst (.non)))) (.nop))))) }
def f103 : FI := { ar := 3, nl := 5, body := .seq (.ifs (.or (.not (.pri (.isi (.tuple)) (.cons (.var 2) (.nil)))) (.bin (.eq) (.var 2) (.tup (.nil)))) (.seq (.ret (.cst (.bl false))) (.nop)) (.nop)) (.seq (.ifs (.bin (.ne) (.com (.var 4) [4] (.iseq (.var 2)) (.not (.cal 16 (.cons (.var 4) (.cons (.cst (.int 0)) (.cons (.bin (.sub) (.pri (.len) (.cons (.var 1) (.nil))) (.cst (.int 2))) (.nil)))))) [4]) (.lst (.nil))) (.seq (.ret (.cst (.bl false))) (.nop)) (.nop)) (.seq (.asg 3 (.com (.cal 102 (.cons (.var 0) (.cons (.bin (.idx) (.var 1) (.var 4)) (.cons (.bin (.idx) (.var 1) (.bin (.add) (.var 4) (.cst (.int 1)))) (.nil))))) [4] (.iseq (.var 2)) (.cst (.bl true)) [4])) (.seq (.ifs (.and (.bin (.eq) (.pri (.len) (.cons (.var 3) (.nil))) (.cst (.int 1))) (.bin (.eq) (.bin (.idx) (.var 3) (.cst (.int 0))) (.cst (.str [110, 101, 118, 101, 114])))) (.seq (.ret (.cst (.bl true))) (.nop)) (.nop)) (.seq (.ifs (.or (.bin (.inn) (.cst (.non)) (.var 3)) (.or (.bin (.inn) (.cst (.str [110, 101, 118, 101, 114])) (.var 3)) (.bin (.ne) (.pri (.sortset) (.cons (.var 2) (.nil))) (.pri (.sorted) (.cons (.pri (.list) (.cons (.var 2) (.nil))) (.nil)))))) (.seq (.ret (.cst (.bl false))) (.nop)) (.nop)) (.seq (.for [4] (.irng (.pri (.len) (.cons (.var 3) (.nil)))) (.seq (.ifs (.bin (.ne) (.bin (.idx) (.bin (.idx) (.var 3) (.bin (.sub) (.var 4) (.cst (.int 1)))) (.cst (.int 1))) (.bin (.idx) (.bin (.idx) (.var 3) (.var 4)) (.cst (.int 0)))) (.seq (.ret (.cst (.bl false))) (.nop)) (.nop)) (.nop))) (.seq (.ret (.cst (.bl true))) (.nop))))))) }
def f104 : FI := { ar := 1, nl := 14, body := .seq (.for [1] (.irng (.pri (.max2) (.cons (.cst (.int 6)) (.cons (.pri (.min2) (.cons (.cst (.int 14)) (.cons (.pri (.len) (.cons (.var 0) (.nil))) (.nil)))) (.nil))))) (.seq (.asg 3 (.cal 13 (.cons (.var 0) (.cons (.var 1) (.nil))))) (.seq (.asg 4 (.cal 24 (.cons (.var 3) (.nil)))) (.seq (.for [5] (.irng (.cst (.int 5))) (.seq (.asg 8 (.cal 48 (.cons (.var 3) (.cons (.var 4) (.cons (.bin (.add) (.cst (.int 2)) (.cal 14 (.cons (.var 3) (.cons (.cst (.int 5)) (.nil))))) (.nil)))))) (.seq (.asg 2 (.cal 99 (.cons (.var 4) (.cons (.var 8) (.nil))))) (.seq (.asg 9 (.com (.var 12) [12] (.iseq (.cal 22 (.cons (.var 4) (.nil)))) (.cal 101 (.cons (.var 4) (.cons (.var 12) (.cons (.tup (.cons (.cst (.str [115, 111, 114, 116, 101, 100])) (.cons (.var 8) (.nil)))) (.nil))))) [12])) (.seq (.ifs (.or (.bin (.ne) (.bin (.eq) (.var 9) (.lst (.nil))) (.bin (.isnot) (.var 2) (.cst (.non)))) (.and (.bin (.isnot) (.var 2) (.cst (.non))) (.not (.cal 103 (.cons (.var 4) (.cons (.var 8) (.cons (.var 2) (.nil)))))))) (.seq (.ret (.cst (.bl false))) (.nop)) (.nop)) (.seq (.asg 10 (.mut (.lst (.cons (.var 2) (.cons (.tup (.nil)) (.cons (.tup (.cons (.cst (.int 0)) (.nil))) (.cons (.tup (.cons (.cst (.int 1)) (.cons (.cst (.int 0)) (.nil)))) (.cons (.tup (.cons (.cst (.int 0)) (.cons (.cst (.int 1)) (.nil)))) (.cons (.tup (.cons (.cst (.int 0)) (.cons (.cst (.int 0)) (.nil)))) (.cons (.tup (.cons (.cst (.int 9)) (.nil))) (.cons (.lst (.cons (.cst (.int 0)) (.nil))) (.cons (.cst (.non)) (.cons (.tup (.cons (.cst (.bl true)) (.nil))) (.cons (.cst (.int 0)) (.nil))))))))))))))) (.seq (.exp (.mth (.append) (.var 10) (.cons (.pri (.tuple) (.cons (.com (.cal 14 (.cons (.var 3) (.cons (.pri (.len) (.cons (.var 8) (.nil))) (.nil)))) [13] (.irng (.bin (.add) (.cst (.int 1)) (.cal 14 (.cons (.var 3) (.cons (.cst (.int 3)) (.nil)))))) (.cst (.bl true)) [13]) (.nil))) (.nil)))) (.seq (.fol [11] (.var 10) (.seq (.ifs (.not (.cal 17 (.cons (.cal 100 (.cons (.var 4) (.cons (.var 8) (.cons (.var 11) (.nil))))) (.cons (.cal 103 (.cons (.var 4) (.cons (.var 8) (.cons (.var 11) (.nil))))) (.nil))))) (.seq (.ret (.cst (.bl false))) (.nop)) (.nop)) (.nop))) (.nop))))))))) (.seq (.for [6] (.iseq (.lst (.cons (.cst (.non)) (.cons (.tup (.cons (.cst (.str [97])) (.nil))) (.cons (.lst (.cons (.cst (.str [97])) (.cons (.cst (.str [98])) (.nil)))) (.cons (.bin (.mul) (.tup (.cons (.cst (.str [97])) (.nil))) (.cst (.int 7))) (.cons (.tup (.cons (.cst (.str [97])) (.cons (.cst (.str [122])) (.nil)))) (.nil)))))))) (.seq (.ifs (.bin (.ne) (.lam (.cal 99 (.cons (.var 4) (.cons (.var 6) (.nil))))) (.cst (.str [119, 111, 114, 100, 115, 32, 118, 97, 108, 117, 101]))) (.seq (.ret (.cst (.bl false))) (.nop)) (.nop)) (.seq (.ifs (.bin (.ne) (.lam (.cal 100 (.cons (.var 4) (.cons (.var 6) (.cons (.cst (.non)) (.nil)))))) (.cst (.str [119, 111, 114, 100, 115, 32, 118, 97, 108, 117, 101]))) (.seq (.ret (.cst (.bl false))) (.nop)) (.nop)) (.nop)))) (.nop)))))) (.seq (.unp [7, 8] (.tup (.cons (.tup (.cons (.cst (.int 3)) (.cons (.tup (.nil)) (.cons (.cst (.str [])) (.nil))))) (.cons (.tup (.cons (.cst (.str [97, 98])) (.cons (.cst (.str [98, 97])) (.cons (.cst (.str [98, 99])) (.cons (.cst (.str [97])) (.nil)))))) (.nil))))) (.seq (.ifs (.or (.bin (.ne) (.cal 99 (.cons (.var 7) (.cons (.tup (.cons (.cst (.str [99, 97, 98])) (.cons (.cst (.str [99, 97])) (.cons (.cst (.str [98])) (.nil))))) (.nil)))) (.tup (.cons (.cst (.int 0)) (.nil)))) (.bin (.isnot) (.cal 99 (.cons (.var 7) (.cons (.slc (.var 8) (.nil) (.cons (.cst (.int 3)) (.nil)) false) (.nil)))) (.cst (.non)))) (.seq (.ret (.cst (.bl false))) (.nop)) (.nop)) (.seq (.ifs (.bin (.ne) (.com (.cal 100 (.cons (.var 7) (.cons (.var 8) (.cons (.var 11) (.nil))))) [11] (.iseq (.lst (.cons (.tup (.cons (.cst (.int 0)) (.cons (.cst (.int 2)) (.nil)))) (.cons (.tup (.cons (.cst (.int 2)) (.cons (.cst (.int 0)) (.nil)))) (.cons (.tup (.cons (.cst (.int 0)) (.nil))) (.cons (.tup (.cons (.cst (.int 0)) (.cons (.cst (.int 1)) (.nil)))) (.nil))))))) (.cst (.bl true)) [11]) (.lst (.cons (.cst (.bl true)) (.cons (.cst (.bl true)) (.cons (.cst (.bl false)) (.cons (.cst (.bl false)) (.nil))))))) (.seq (.ret (.cst (.bl false))) (.nop)) (.nop)) (.seq (.asg 2 (.com (.cal 100 (.cons (.var 7) (.cons (.tup (.cons (.cst (.str [97, 97])) (.cons (.cst (.str [97, 98])) (.cons (.cst (.str [97, 99])) (.cons (.cst (.str [97, 97])) (.nil)))))) (.cons (.var 11) (.nil))))) [11] (.iseq (.lst (.cons (.tup (.cons (.cst (.int 0)) (.cons (.cst (.int 1)) (.cons (.cst (.int 2)) (.nil))))) (.cons (.tup (.cons (.cst (.int 2)) (.cons (.cst (.int 1)) (.cons (.cst (.int 0)) (.nil))))) (.cons (.tup (.cons (.cst (.int 1)) (.cons (.cst (.int 2)) (.cons (.cst (.int 0)) (.nil))))) (.nil)))))) (.cst (.bl true)) [11])) (.seq (.ifs (.bin (.ne) (.var 2) (.lst (.cons (.cst (.bl true)) (.cons (.cst (.bl false)) (.cons (.cst (.bl true)) (.nil)))))) (.seq (.ret (.cst (.bl false))) (.nop)) (.nop)) (.seq (.ret (.and (.bin (.eq) (.pri (.sorted) (.cons (.cal 99 (.cons (.var 7) (.cons (.var 8) (.nil)))) (.nil))) (.lst (.cons (.cst (.int 0)) (.cons (.cst (.int 2)) (.nil))))) (.bin (.is) (.cal 99 (.cons (.var 7) (.cons (.tup (.cons (.cst (.str [97])) (.cons (.cst (.str [97])) (.nil)))) (.nil)))) (.cst (.non))))) (.nop))))))) }
def f105 : FI := { ar := 2, nl := 2, body := .seq (.ifs (.not (.cal 40 (.cons (.var 0) (.cons (.var 1) (.nil))))) (.seq (.rse 5) (.nop)) (.nop)) (.nop) }
def f106 : FI := { ar := 3, nl := 3, body := .seq (.ret (.bin (.add) (.bin (.add) (.slc (.var 0) (.nil) (.cons (.var 1) (.nil)) false) (.tup (.cons (.var 2) (.nil)))) (.slc (.var 0) (.cons (.var 1) (.nil)) (.nil) false))) (.nop) }
def f107 : FI := { ar := 4, nl := 5, body := .seq (.for [4] (.irng (.pri (.len) (.cons (.var 2) (.nil)))) (.seq (.ifs (.cal 61 (.cons (.var 0) (.cons (.var 1) (.cons (.var 3) (.cons (.bin (.idx) (.var 2) (.var 4)) (.nil)))))) (.seq (.ret (.var 4)) (.nop)) (.nop)) (.nop))) (.seq (.ret (.pri (.len) (.cons (.var 2) (.nil)))) (.nop)) }
def f108 : FI := { ar := 4, nl := 7, body := .seq (.par [4, 5] (.cons (.cst (.int 0)) (.cons (.pri (.len) (.cons (.var 2) (.nil))) (.nil)))) (.seq (.whl (.bin (.lt) (.var 4) (.var 5)) (.seq (.asg 6 (.bin (.fdiv) (.bin (.add) (.var 4) (.var 5)) (.cst (.int 2)))) (.seq (.ifs (.cal 61 (.cons (.var 0) (.cons (.var 1) (.cons (.var 3) (.cons (.bin (.idx) (.var 2) (.var 6)) (.nil)))))) (.seq (.asg 5 (.var 6)) (.nop)) (.seq (.asg 4 (.bin (.add) (.var 6) (.cst (.int 1)))) (.nop))) (.nop)))) (.seq (.ret (.var 4)) (.nop))) }
def f109 : FI := { ar := 4, nl := 4, body := .seq (.whl (.and (.bin (.ne) (.var 2) (.tup (.nil))) (.cal 61 (.cons (.var 0) (.cons (.var 1) (.cons (.bin (.idx) (.var 2) (.cst (.int 0))) (.cons (.var 3) (.nil))))))) (.seq (.asg 2 (.slc (.var 2) (.cons (.cst (.int 1)) (.nil)) (.nil) false)) (.nop))) (.seq (.ret (.var 2)) (.nop)) }
def f110 : FI := { ar := 4, nl := 5, body := .seq (.asg 4 (.tup (.nil))) (.seq (.whl (.and (.bin (.ne) (.var 2) (.tup (.nil))) (.bin (.ne) (.var 3) (.tup (.nil)))) (.seq (.ifs (.cal 61 (.cons (.var 0) (.cons (.var 1) (.cons (.bin (.idx) (.var 3) (.cst (.int 0))) (.cons (.bin (.idx) (.var 2) (.cst (.int 0))) (.nil)))))) (.seq (.par [4, 3] (.cons (.bin (.add) (.var 4) (.slc (.var 3) (.nil) (.cons (.cst (.int 1)) (.nil)) false)) (.cons (.slc (.var 3) (.cons (.cst (.int 1)) (.nil)) (.nil) false) (.nil)))) (.nop)) (.seq (.par [4, 2] (.cons (.bin (.add) (.var 4) (.slc (.var 2) (.nil) (.cons (.cst (.int 1)) (.nil)) false)) (.cons (.slc (.var 2) (.cons (.cst (.int 1)) (.nil)) (.nil) false) (.nil)))) (.nop))) (.nop))) (.seq (.ret (.bin (.add) (.bin (.add) (.var 4) (.var 2)) (.var 3))) (.nop))) }
def f111 : FI := { ar := 4, nl := 7, body := .seq (.asg 4 (.bin (.idx) (.var 3) (.cst (.int 1)))) (.seq (.ifs (.bin (.ge) (.bin (.add) (.var 4) (.cst (.int 1))) (.pri (.len) (.cons (.var 2) (.nil)))) (.seq (.ret (.var 2)) (.nop)) (.nop)) (.seq (.asg 5 (.cal 61 (.cons (.var 0) (.cons (.var 1) (.cons (.bin (.idx) (.var 2) (.bin (.add) (.var 4) (.cst (.int 1)))) (.cons (.bin (.idx) (.var 2) (.var 4)) (.nil))))))) (.seq (.asg 6 (.ite (.var 5) (.slc (.slc (.var 2) (.cons (.bin (.add) (.var 4) (.cst (.int 1))) (.nil)) (.nil) true) (.nil) (.cons (.cst (.int 2)) (.nil)) false) (.slc (.var 2) (.cons (.var 4) (.nil)) (.cons (.bin (.add) (.var 4) (.cst (.int 2))) (.nil)) false))) (.seq (.ifs (.bin (.eq) (.bin (.idx) (.var 3) (.cst (.int 0))) (.cst (.str [107, 101, 101, 112]))) (.seq (.asg 6 (.slc (.var 6) (.nil) (.cons (.cst (.int 1)) (.nil)) false)) (.nop)) (.nop)) (.seq (.ret (.bin (.add) (.bin (.add) (.slc (.var 2) (.nil) (.cons (.var 4) (.nil)) false) (.var 6)) (.slc (.var 2) (.cons (.bin (.add) (.var 4) (.cst (.int 2))) (.nil)) (.nil) false))) (.nop)))))) }
def f112 : FI := { ar := 4, nl := 4, body := .seq (.ifs (.bin (.eq) (.bin (.idx) (.var 3) (.cst (.int 0))) (.cst (.str [102, 105, 108, 101]))) (.seq (.ret (.cal 106 (.cons (.var 2) (.cons (.cal 107 (.cons (.var 0) (.cons (.var 1) (.cons (.var 2) (.cons (.bin (.idx) (.var 3) (.cst (.int 1))) (.nil)))))) (.cons (.bin (.idx) (.var 3) (.cst (.int 1))) (.nil)))))) (.nop)) (.nop)) (.seq (.ifs (.bin (.eq) (.bin (.idx) (.var 3) (.cst (.int 0))) (.cst (.str [104, 97, 108, 118, 101]))) (.seq (.ret (.cal 106 (.cons (.var 2) (.cons (.cal 108 (.cons (.var 0) (.cons (.var 1) (.cons (.var 2) (.cons (.bin (.idx) (.var 3) (.cst (.int 1))) (.nil)))))) (.cons (.bin (.idx) (.var 3) (.cst (.int 1))) (.nil)))))) (.nop)) (.nop)) (.seq (.ifs (.bin (.eq) (.bin (.idx) (.var 3) (.cst (.int 0))) (.cst (.str [100, 114, 111, 112]))) (.seq (.ret (.cal 109 (.cons (.var 0) (.cons (.var 1) (.cons (.var 2) (.cons (.bin (.idx) (.var 3) (.cst (.int 1))) (.nil))))))) (.nop)) (.nop)) (.seq (.ifs (.bin (.eq) (.bin (.idx) (.var 3) (.cst (.int 0))) (.cst (.str [109, 101, 114, 103, 101]))) (.seq (.ret (.cal 110 (.cons (.var 0) (.cons (.var 1) (.cons (.var 2) (.cons (.bin (.idx) (.var 3) (.cst (.int 1))) (.nil))))))) (.nop)) (.nop)) (.seq (.ret (.cal 111 (.cons (.var 0) (.cons (.var 1) (.cons (.var 2) (.cons (.var 3) (.nil))))))) (.nop))))) }
def f113 : FI := { ar := 4, nl := 7, body := .seq (.for [4] (.iseq (.var 2)) (.seq (.asg 5 (.tup (.cons (.var 4) (.nil)))) (.seq (.ifs (.bin (.eq) (.bin (.idx) (.var 4) (.cst (.int 0))) (.cst (.str [105, 102]))) (.seq (.asg 5 (.ite (.cal 61 (.cons (.var 0) (.cons (.var 1) (.cons (.bin (.idx) (.var 4) (.cst (.int 1))) (.cons (.bin (.idx) (.var 4) (.cst (.int 2))) (.nil)))))) (.bin (.idx) (.var 4) (.cst (.int 3))) (.bin (.idx) (.var 4) (.cst (.int 4))))) (.nop)) (.nop)) (.seq (.for [6] (.iseq (.var 5)) (.seq (.asg 3 (.cal 112 (.cons (.var 0) (.cons (.var 1) (.cons (.var 3) (.cons (.var 6) (.nil))))))) (.nop))) (.nop))))) (.seq (.ret (.var 3)) (.nop)) }
def f114 : FI := { ar := 4, nl := 4, body := .seq (.exp (.cal 3 (.cons (.var 0) (.nil)))) (.seq (.exp (.cal 57 (.cons (.var 0) (.cons (.var 1) (.nil))))) (.seq (.exp (.cal 105 (.cons (.var 0) (.cons (.var 2) (.nil))))) (.seq (.exp (.cal 56 (.cons (.var 0) (.cons (.var 3) (.nil))))) (.seq (.ret (.cal 113 (.cons (.var 0) (.cons (.var 1) (.cons (.var 2) (.cons (.var 3) (.nil))))))) (.nop))))) }
def f117 : FI := { ar := 4, nl := 8, body := .seq (.asg 4 (.pri (.list) (.cons (.var 3) (.nil)))) (.seq (.for [5] (.iseq (.var 2)) (.seq (.asg 6 (.lst (.cons (.var 5) (.nil)))) (.seq (.ifs (.bin (.eq) (.bin (.idx) (.var 5) (.cst (.int 0))) (.cst (.str [105, 102]))) (.seq (.asg 6 (.ite (.cal 67 (.cons (.var 0) (.cons (.var 1) (.cons (.bin (.idx) (.var 5) (.cst (.int 1))) (.cons (.bin (.idx) (.var 5) (.cst (.int 2))) (.nil)))))) (.bin (.idx) (.var 5) (.cst (.int 3))) (.bin (.idx) (.var 5) (.cst (.int 4))))) (.nop)) (.nop)) (.seq (.for [7] (.iseq (.var 6)) (.seq (.asg 4 (.cal 116 (.cons (.var 0) (.cons (.var 1) (.cons (.var 4) (.cons (.var 7) (.nil))))))) (.nop))) (.nop))))) (.seq (.ret (.pri (.tuple) (.cons (.var 4) (.nil)))) (.nop))) }
def f119 : FI := { ar := 5, nl := 6, body := .seq (.for [5] (.iseq (.var 1)) (.seq (.ifs (.bin (.ne) (.cal 113 (.cons (.var 0) (.cons (.var 5) (.cons (.var 2) (.cons (.var 4) (.nil)))))) (.cal 113 (.cons (.var 0) (.cons (.var 5) (.cons (.var 3) (.cons (.var 4) (.nil))))))) (.seq (.ret (.var 5)) (.nop)) (.nop)) (.nop))) (.seq (.ret (.cst (.non))) (.nop)) }
def f120 : FI := { ar := 5, nl := 5, body := .seq (.exp (.cal 3 (.cons (.var 0) (.nil)))) (.seq (.exp (.cal 74 (.cons (.var 0) (.cons (.var 1) (.nil))))) (.seq (.exp (.cal 105 (.cons (.var 0) (.cons (.var 2) (.nil))))) (.seq (.exp (.cal 105 (.cons (.var 0) (.cons (.var 3) (.nil))))) (.seq (.exp (.cal 56 (.cons (.var 0) (.cons (.var 4) (.nil))))) (.nop))))) }
def f121 : FI := { ar := 5, nl := 5, body := .seq (.exp (.cal 120 (.cons (.var 0) (.cons (.var 1) (.cons (.var 2) (.cons (.var 3) (.cons (.var 4) (.nil)))))))) (.seq (.ret (.bin (.is) (.cal 119 (.cons (.var 0) (.cons (.cal 79 (.cons (.var 0) (.cons (.var 1) (.nil)))) (.cons (.var 2) (.cons (.var 3) (.cons (.var 4) (.nil))))))) (.cst (.non)))) (.nop)) }
def f122 : FI := { ar := 5, nl := 5, body := .seq (.exp (.cal 120 (.cons (.var 0) (.cons (.var 1) (.cons (.var 2) (.cons (.var 3) (.cons (.var 4) (.nil)))))))) (.seq (.ret (.cal 119 (.cons (.var 0) (.cons (.cal 79 (.cons (.var 0) (.cons (.var 1) (.nil)))) (.cons (.var 2) (.cons (.var 3) (.cons (.var 4) (.nil)))))))) (.nop)) }
def f123 : FI := { ar := 4, nl := 7, body := .seq (.exp (.cal 120 (.cons (.var 0) (.cons (.var 1) (.cons (.var 2) (.cons (.var 2) (.cons (.var 3) (.nil)))))))) (.seq (.par [5, 6] (.cons (.cal 79 (.cons (.var 0) (.cons (.var 1) (.nil)))) (.cons (.mut (.lst (.nil))) (.nil)))) (.seq (.for [4] (.irng (.pri (.len) (.cons (.var 2) (.nil)))) (.seq (.ifs (.bin (.is) (.cal 119 (.cons (.var 0) (.cons (.var 5) (.cons (.var 2) (.cons (.bin (.add) (.slc (.var 2) (.nil) (.cons (.var 4) (.nil)) false) (.slc (.var 2) (.cons (.bin (.add) (.var 4) (.cst (.int 1))) (.nil)) (.nil) false)) (.cons (.var 3) (.nil))))))) (.cst (.non))) (.seq (.exp (.mth (.append) (.var 6) (.cons (.var 4) (.nil)))) (.nop)) (.nop)) (.nop))) (.seq (.ret (.var 6)) (.nop)))) }
def f124 : FI := { ar := 3, nl := 7, body := .seq (.asg 3 (.tup (.nil))) (.seq (.for [4] (.irng (.var 2)) (.seq (.asg 5 (.cal 25 (.cons (.var 0) (.cons (.var 1) (.cons (.cst (.int 4)) (.nil)))))) (.seq (.ifs (.and (.bin (.ne) (.var 3) (.tup (.nil))) (.bin (.eq) (.cal 14 (.cons (.var 0) (.cons (.cst (.int 2)) (.nil)))) (.cst (.int 0)))) (.seq (.asg 6 (.cal 15 (.cons (.var 0) (.cons (.pri (.list) (.cons (.var 3) (.nil))) (.nil))))) (.seq (.asg 5 (.bin (.add) (.slc (.var 6) (.nil) (.cons (.cal 14 (.cons (.var 0) (.cons (.bin (.add) (.pri (.len) (.cons (.var 6) (.nil))) (.cst (.int 1))) (.nil)))) (.nil)) false) (.cal 25 (.cons (.var 0) (.cons (.var 1) (.cons (.cst (.int 2)) (.nil))))))) (.nop))) (.nop)) (.seq (.asg 3 (.bin (.add) (.var 3) (.tup (.cons (.slc (.var 5) (.nil) (.cons (.cst (.int 8)) (.nil)) false) (.nil))))) (.nop))))) (.seq (.ret (.var 3)) (.nop))) }
def f125 : FI := { ar := 2, nl := 3, body := .seq (.asg 2 (.cal 15 (.cons (.var 0) (.cons (.lst (.cons (.cst (.str [97, 104, 101, 97, 100])) (.cons (.cst (.str [97, 104, 101, 97, 100])) (.cons (.cst (.str [98, 101, 116, 119, 101, 101, 110])) (.cons (.cst (.str [115, 111, 114, 116, 101, 100])) (.nil)))))) (.nil))))) (.seq (.ifs (.bin (.eq) (.var 2) (.cst (.str [115, 111, 114, 116, 101, 100]))) (.seq (.ret (.tup (.cons (.var 2) (.cons (.cal 124 (.cons (.var 0) (.cons (.var 1) (.cons (.bin (.add) (.cst (.int 2)) (.cal 14 (.cons (.var 0) (.cons (.cst (.int 3)) (.nil))))) (.nil))))) (.nil))))) (.nop)) (.nop)) (.seq (.ret (.bin (.add) (.tup (.cons (.var 2) (.nil))) (.cal 124 (.cons (.var 0) (.cons (.var 1) (.cons (.ite (.bin (.eq) (.var 2) (.cst (.str [97, 104, 101, 97, 100]))) (.cst (.int 2)) (.cst (.int 3))) (.nil))))))) (.nop))) }
def f126 : FI := { ar := 3, nl := 7, body := .seq (.par [4, 5] (.cons (.cal 15 (.cons (.var 0) (.cons (.cal 22 (.cons (.var 1) (.nil))) (.nil)))) (.cons (.tup (.nil)) (.nil)))) (.seq (.for [3] (.irng (.cal 14 (.cons (.var 0) (.cons (.bin (.add) (.var 2) (.cst (.int 1))) (.nil))))) (.seq (.asg 6 (.cal 125 (.cons (.var 0) (.cons (.var 1) (.nil))))) (.seq (.ifs (.and (.bin (.eq) (.bin (.idx) (.var 6) (.cst (.int 0))) (.cst (.str [115, 111, 114, 116, 101, 100]))) (.bin (.gt) (.cal 14 (.cons (.var 0) (.cons (.cst (.int 4)) (.nil)))) (.cst (.int 0)))) (.seq (.asg 6 (.tup (.cons (.bin (.idx) (.var 6) (.cst (.int 0))) (.cons (.cal 68 (.cons (.var 1) (.cons (.var 4) (.cons (.bin (.idx) (.var 6) (.cst (.int 1))) (.nil))))) (.nil))))) (.nop)) (.nop)) (.seq (.ifs (.or (.cal 85 (.cons (.var 1) (.cons (.var 4) (.cons (.var 6) (.nil))))) (.bin (.eq) (.cal 14 (.cons (.var 0) (.cons (.cst (.int 6)) (.nil)))) (.cst (.int 0)))) (.seq (.asg 5 (.bin (.add) (.var 5) (.tup (.cons (.var 6) (.nil))))) (.nop)) (.nop)) (.nop))))) (.seq (.ret (.var 5)) (.nop))) }
def f127 : FI := { ar := 2, nl := 3, body := .seq (.asg 2 (.cal 15 (.cons (.var 0) (.cons (.lst (.cons (.cst (.str [102, 105, 108, 101])) (.cons (.cst (.str [102, 105, 108, 101])) (.cons (.cst (.str [104, 97, 108, 118, 101])) (.cons (.cst (.str [100, 114, 111, 112])) (.cons (.cst (.str [109, 101, 114, 103, 101])) (.cons (.cst (.str [116, 117, 114, 110])) (.cons (.cst (.str [107, 101, 101, 112])) (.nil))))))))) (.nil))))) (.seq (.ifs (.bin (.eq) (.var 2) (.cst (.str [109, 101, 114, 103, 101]))) (.seq (.ret (.tup (.cons (.var 2) (.cons (.cal 124 (.cons (.var 0) (.cons (.var 1) (.cons (.bin (.add) (.cst (.int 1)) (.cal 14 (.cons (.var 0) (.cons (.cst (.int 3)) (.nil))))) (.nil))))) (.nil))))) (.nop)) (.nop)) (.seq (.ifs (.bin (.inn) (.var 2) (.lst (.cons (.cst (.str [116, 117, 114, 110])) (.cons (.cst (.str [107, 101, 101, 112])) (.nil))))) (.seq (.ret (.tup (.cons (.var 2) (.cons (.cal 14 (.cons (.var 0) (.cons (.cst (.int 4)) (.nil)))) (.nil))))) (.nop)) (.nop)) (.seq (.ret (.tup (.cons (.var 2) (.cons (.cal 25 (.cons (.var 0) (.cons (.var 1) (.cons (.cst (.int 3)) (.nil))))) (.nil))))) (.nop)))) }
def f128 : FI := { ar := 2, nl := 7, body := .seq (.asg 2 (.tup (.nil))) (.seq (.for [3] (.irng (.cal 14 (.cons (.var 0) (.cons (.cst (.int 4)) (.nil))))) (.seq (.asg 4 (.cal 127 (.cons (.var 0) (.cons (.var 1) (.nil))))) (.seq (.ifs (.bin (.eq) (.cal 14 (.cons (.var 0) (.cons (.cst (.int 5)) (.nil)))) (.cst (.int 0))) (.seq (.unp [5, 6] (.cal 124 (.cons (.var 0) (.cons (.var 1) (.cons (.cst (.int 2)) (.nil)))))) (.seq (.asg 4 (.tup (.cons (.cst (.str [105, 102])) (.cons (.var 5) (.cons (.var 6) (.cons (.tup (.cons (.var 4) (.nil))) (.cons (.bin (.mul) (.tup (.cons (.cal 127 (.cons (.var 0) (.cons (.var 1) (.nil)))) (.nil))) (.cal 14 (.cons (.var 0) (.cons (.cst (.int 2)) (.nil))))) (.nil)))))))) (.nop))) (.nop)) (.seq (.asg 2 (.bin (.add) (.var 2) (.tup (.cons (.var 4) (.nil))))) (.nop))))) (.seq (.ret (.ite (.cal 47 (.cons (.var 1) (.cons (.var 2) (.nil)))) (.var 2) (.slc (.var 2) (.nil) (.cons (.cst (.int 2)) (.nil)) false))) (.nop))) }
def f129 : FI := { ar := 3, nl := 7, body := .seq (.par [4, 5] (.cons (.cal 14 (.cons (.var 0) (.cons (.bin (.add) (.pri (.len) (.cons (.var 2) (.nil))) (.cst (.int 1))) (.nil)))) (.cons (.cal 14 (.cons (.var 0) (.cons (.cst (.int 4)) (.nil)))) (.nil)))) (.seq (.asg 3 (.bin (.add) (.bin (.add) (.slc (.var 2) (.nil) (.cons (.var 4) (.nil)) false) (.tup (.cons (.cal 127 (.cons (.var 0) (.cons (.var 1) (.nil)))) (.nil)))) (.slc (.var 2) (.cons (.var 4) (.nil)) (.nil) false))) (.seq (.ifs (.bin (.eq) (.var 5) (.cst (.int 1))) (.seq (.asg 3 (.bin (.add) (.slc (.var 2) (.nil) (.cons (.var 4) (.nil)) false) (.slc (.var 2) (.cons (.bin (.add) (.var 4) (.cst (.int 1))) (.nil)) (.nil) false))) (.nop)) (.nop)) (.seq (.ifs (.bin (.eq) (.var 5) (.cst (.int 2))) (.seq (.asg 3 (.bin (.add) (.bin (.add) (.slc (.var 2) (.nil) (.cons (.var 4) (.nil)) false) (.slc (.slc (.var 2) (.cons (.var 4) (.nil)) (.cons (.bin (.add) (.var 4) (.cst (.int 2))) (.nil)) false) (.nil) (.nil) true)) (.slc (.var 2) (.cons (.bin (.add) (.var 4) (.cst (.int 2))) (.nil)) (.nil) false))) (.nop)) (.nop)) (.seq (.ifs (.bin (.eq) (.var 5) (.cst (.int 3))) (.seq (.asg 3 (.pri (.tuple) (.cons (.com (.ite (.bin (.eq) (.bin (.idx) (.var 6) (.cst (.int 0))) (.cst (.str [102, 105, 108, 101]))) (.tup (.cons (.cst (.str [104, 97, 108, 118, 101])) (.cons (.bin (.idx) (.var 6) (.cst (.int 1))) (.nil)))) (.var 6)) [6] (.iseq (.var 2)) (.cst (.bl true)) [6]) (.nil)))) (.nop)) (.nop)) (.seq (.ret (.ite (.cal 47 (.cons (.var 1) (.cons (.var 3) (.nil)))) (.var 3) (.var 2))) (.nop)))))) }
def f130 : FI := { ar := 5, nl := 7, body := .seq (.asg 5 (.mut (.lst (.nil)))) (.seq (.for [6] (.iseq (.var 1)) (.seq (.ifs (.bin (.ne) (.cal 117 (.cons (.var 0) (.cons (.var 6) (.cons (.var 2) (.cons (.var 4) (.nil)))))) (.cal 117 (.cons (.var 0) (.cons (.var 6) (.cons (.var 3) (.cons (.var 4) (.nil))))))) (.seq (.exp (.mth (.append) (.var 5) (.cons (.var 6) (.nil)))) (.nop)) (.nop)) (.nop))) (.seq (.ret (.var 5)) (.nop))) }
def f131 : FI := { ar := 1, nl := 16, body := .seq (.for [1] (.irng (.pri (.max2) (.cons (.cst (.int 5)) (.cons (.pri (.min2) (.cons (.cst (.int 12)) (.cons (.pri (.len) (.cons (.var 0) (.nil))) (.nil)))) (.nil))))) (.seq (.asg 3 (.cal 42 (.cons (.var 0) (.cons (.var 1) (.nil))))) (.seq (.asg 4 (.cal 24 (.cons (.var 3) (.nil)))) (.seq (.for [5] (.irng (.cst (.int 3))) (.seq (.unp [9, 14, 8] (.tup (.cons (.cal 128 (.cons (.var 3) (.cons (.var 4) (.nil)))) (.cons (.cal 124 (.cons (.var 3) (.cons (.var 4) (.cons (.cst (.int 5)) (.nil))))) (.cons (.cal 126 (.cons (.var 3) (.cons (.var 4) (.cons (.cst (.int 3)) (.nil))))) (.nil)))))) (.seq (.par [10, 15] (.cons (.cal 129 (.cons (.var 3) (.cons (.var 4) (.cons (.var 9) (.nil))))) (.cons (.cal 86 (.cons (.var 4) (.cons (.var 8) (.nil)))) (.nil)))) (.seq (.asg 11 (.cal 130 (.cons (.var 4) (.cons (.var 15) (.cons (.var 9) (.cons (.var 10) (.cons (.var 14) (.nil)))))))) (.seq (.ifs (.not (.cal 17 (.cons (.cal 121 (.cons (.var 4) (.cons (.var 8) (.cons (.var 9) (.cons (.var 10) (.cons (.var 14) (.nil))))))) (.cons (.bin (.eq) (.var 11) (.lst (.nil))) (.nil))))) (.seq (.ret (.cst (.bl false))) (.nop)) (.nop)) (.seq (.asg 6 (.cal 122 (.cons (.var 4) (.cons (.var 8) (.cons (.var 9) (.cons (.var 10) (.cons (.var 14) (.nil)))))))) (.seq (.ifs (.or (.bin (.ne) (.bin (.is) (.var 6) (.cst (.non))) (.bin (.eq) (.var 11) (.lst (.nil)))) (.and (.bin (.isnot) (.var 6) (.cst (.non))) (.bin (.notin) (.var 6) (.var 11)))) (.seq (.ret (.cst (.bl false))) (.nop)) (.nop)) (.seq (.asg 12 (.mut (.lst (.nil)))) (.seq (.for [13] (.irng (.pri (.len) (.cons (.var 9) (.nil)))) (.seq (.ifs (.bin (.eq) (.cal 130 (.cons (.var 4) (.cons (.var 15) (.cons (.var 9) (.cons (.bin (.add) (.slc (.var 9) (.nil) (.cons (.var 13) (.nil)) false) (.slc (.var 9) (.cons (.bin (.add) (.var 13) (.cst (.int 1))) (.nil)) (.nil) false)) (.cons (.var 14) (.nil))))))) (.lst (.nil))) (.seq (.exp (.mth (.append) (.var 12) (.cons (.var 13) (.nil)))) (.nop)) (.nop)) (.nop))) (.seq (.ifs (.bin (.ne) (.cal 123 (.cons (.var 4) (.cons (.var 8) (.cons (.var 9) (.cons (.var 14) (.nil)))))) (.var 12)) (.seq (.ret (.cst (.bl false))) (.nop)) (.nop)) (.nop))))))))))) (.seq (.asg 6 (.mut (.lst (.cons (.lam (.cal 121 (.cons (.var 4) (.cons (.tup (.nil)) (.cons (.var 9) (.cons (.cst (.non)) (.cons (.cst (.non)) (.nil)))))))) (.nil))))) (.seq (.exp (.mth (.append) (.var 6) (.cons (.lam (.cal 122 (.cons (.var 4) (.cons (.tup (.nil)) (.cons (.cst (.non)) (.cons (.cst (.non)) (.cons (.cst (.non)) (.nil)))))))) (.nil)))) (.seq (.exp (.mth (.append) (.var 6) (.cons (.lam (.cal 123 (.cons (.var 4) (.cons (.cst (.non)) (.cons (.cst (.non)) (.cons (.cst (.non)) (.nil))))))) (.nil)))) (.seq (.ifs (.bin (.ne) (.var 6) (.lst (.cons (.cst (.str [115, 99, 114, 105, 112, 116, 32, 118, 97, 108, 117, 101])) (.cons (.cst (.str [115, 99, 114, 105, 112, 116, 32, 118, 97, 108, 117, 101])) (.cons (.cst (.str [102, 97, 99, 116, 115, 32, 118, 97, 108, 117, 101])) (.nil)))))) (.seq (.ret (.cst (.bl false))) (.nop)) (.nop)) (.nop))))))))) (.seq (.unp [7, 8] (.tup (.cons (.tup (.cons (.cst (.int 3)) (.cons (.tup (.nil)) (.cons (.cst (.str [])) (.nil))))) (.cons (.tup (.cons (.tup (.cons (.cst (.str [115, 111, 114, 116, 101, 100])) (.cons (.tup (.cons (.cst (.str [98])) (.cons (.cst (.str [99, 97])) (.cons (.cst (.str [99, 97, 98])) (.nil))))) (.nil)))) (.nil))) (.nil))))) (.seq (.unp [9, 10] (.tup (.cons (.tup (.cons (.tup (.cons (.cst (.str [102, 105, 108, 101])) (.cons (.cst (.str [98])) (.nil)))) (.nil))) (.cons (.tup (.cons (.tup (.cons (.cst (.str [104, 97, 108, 118, 101])) (.cons (.cst (.str [98])) (.nil)))) (.nil))) (.nil))))) (.seq (.ifs (.or (.cal 121 (.cons (.var 7) (.cons (.tup (.nil)) (.cons (.var 9) (.cons (.var 10) (.cons (.tup (.cons (.cst (.str [97])) (.cons (.cst (.str [99])) (.nil)))) (.nil))))))) (.not (.cal 121 (.cons (.var 7) (.cons (.var 8) (.cons (.var 9) (.cons (.var 10) (.cons (.tup (.cons (.cst (.str [97])) (.cons (.cst (.str [99])) (.nil)))) (.nil))))))))) (.seq (.ret (.cst (.bl false))) (.nop)) (.nop)) (.seq (.ifs (.bin (.ne) (.cal 122 (.cons (.var 7) (.cons (.tup (.nil)) (.cons (.var 9) (.cons (.var 10) (.cons (.tup (.cons (.cst (.str [97])) (.cons (.cst (.str [99])) (.nil)))) (.nil))))))) (.tup (.cons (.cst (.str [99])) (.cons (.cst (.str [98])) (.cons (.cst (.str [97])) (.nil)))))) (.seq (.ret (.cst (.bl false))) (.nop)) (.nop)) (.seq (.asg 2 (.tup (.cons (.tup (.cons (.cst (.str [116, 117, 114, 110])) (.cons (.cst (.int 0)) (.nil)))) (.cons (.tup (.cons (.cst (.str [102, 105, 108, 101])) (.cons (.cst (.str [98])) (.nil)))) (.cons (.tup (.cons (.cst (.str [100, 114, 111, 112])) (.cons (.cst (.str [98])) (.nil)))) (.nil)))))) (.seq (.ret (.and (.bin (.eq) (.cal 123 (.cons (.var 7) (.cons (.var 8) (.cons (.var 2) (.cons (.tup (.cons (.cst (.str [98])) (.cons (.cst (.str [99])) (.nil)))) (.nil)))))) (.lst (.cons (.cst (.int 0)) (.cons (.cst (.int 2)) (.nil))))) (.bin (.eq) (.cal 123 (.cons (.var 7) (.cons (.tup (.nil)) (.cons (.var 2) (.cons (.tup (.cons (.cst (.str [98])) (.cons (.cst (.str [99])) (.nil)))) (.nil)))))) (.lst (.nil))))) (.nop))))))) }
def f132 : FI := { ar := 2, nl := 4, body := .seq (.exp (.cal 3 (.cons (.var 0) (.nil)))) (.seq (.exp (.cal 74 (.cons (.var 0) (.cons (.var 1) (.nil))))) (.seq (.asg 2 (.cal 79 (.cons (.var 0) (.cons (.var 1) (.nil))))) (.seq (.ret (.com (.var 3) [3] (.irng (.pri (.len) (.cons (.var 1) (.nil)))) (.bin (.eq) (.cal 79 (.cons (.var 0) (.cons (.bin (.add) (.slc (.var 1) (.nil) (.cons (.var 3) (.nil)) false) (.slc (.var 1) (.cons (.bin (.add) (.var 3) (.cst (.int 1))) (.nil)) (.nil) false)) (.nil)))) (.var 2)) [3])) (.nop)))) }
def f133 : FI := { ar := 1, nl := 5, body := .seq (.asg 1 (.lst (.cons (.tup (.nil)) (.nil)))) (.seq (.for [2] (.irng (.var 0)) (.seq (.asg 1 (.bin (.add) (.var 1) (.com (.bin (.add) (.var 4) (.tup (.cons (.var 2) (.nil)))) [4] (.iseq (.var 1)) (.cst (.bl true)) [4]))) (.nop))) (.seq (.ret (.com (.var 4) [3, 4] (.iseq (.pri (.sorted) (.cons (.com (.tup (.cons (.pri (.len) (.cons (.var 4) (.nil))) (.cons (.var 4) (.nil)))) [4] (.iseq (.var 1)) (.cst (.bl true)) [4]) (.nil)))) (.cst (.bl true)) [3, 4])) (.nop))) }
def f134 : FI := { ar := 2, nl := 3, body := .seq (.ret (.bin (.eq) (.com (.var 2) [2] (.iseq (.var 0)) (.bin (.notin) (.var 2) (.var 1)) [2]) (.lst (.nil)))) (.nop) }
def f135 : FI := { ar := 3, nl := 8, body := .seq (.exp (.cal 3 (.cons (.var 0) (.nil)))) (.seq (.exp (.cal 74 (.cons (.var 0) (.cons (.var 1) (.nil))))) (.seq (.exp (.cal 75 (.cons (.var 0) (.cons (.var 2) (.nil))))) (.seq (.asg 3 (.mut (.lst (.nil)))) (.seq (.for [4] (.iseq (.cal 133 (.cons (.pri (.len) (.cons (.var 1) (.nil))) (.nil)))) (.seq (.ifs (.bin (.eq) (.com (.var 6) [6] (.iseq (.var 3)) (.cal 134 (.cons (.var 6) (.cons (.var 4) (.nil)))) [6]) (.lst (.nil))) (.seq (.asg 5 (.cal 79 (.cons (.var 0) (.cons (.pri (.tuple) (.cons (.com (.bin (.idx) (.var 1) (.var 7)) [7] (.iseq (.var 4)) (.cst (.bl true)) [7]) (.nil))) (.nil))))) (.seq (.ifs (.bin (.isnot) (.cal 80 (.cons (.var 0) (.cons (.var 5) (.cons (.var 2) (.nil))))) (.cst (.non))) (.seq (.exp (.mth (.append) (.var 3) (.cons (.var 4) (.nil)))) (.nop)) (.nop)) (.nop))) (.nop)) (.nop))) (.seq (.ret (.pri (.sorted) (.cons (.var 3) (.nil)))) (.nop)))))) }
def f136 : FI := { ar := 1, nl := 4, body := .seq (.asg 1 (.lst (.cons (.tup (.nil)) (.nil)))) (.seq (.for [2] (.irng (.var 0)) (.seq (.asg 1 (.bin (.add) (.var 1) (.com (.bin (.add) (.var 3) (.tup (.cons (.var 2) (.nil)))) [3] (.iseq (.var 1)) (.cst (.bl true)) [3]))) (.nop))) (.seq (.ret (.var 1)) (.nop))) }
def f137 : FI := { ar := 3, nl := 10, body := .seq (.par [4, 5] (.cons (.mut (.lst (.nil))) (.cons (.lst (.nil)) (.nil)))) (.seq (.for [3] (.iseq (.cal 136 (.cons (.pri (.len) (.cons (.var 1) (.nil))) (.nil)))) (.seq (.asg 6 (.cal 86 (.cons (.var 0) (.cons (.com (.bin (.idx) (.var 1) (.var 9)) [9] (.iseq (.var 3)) (.cst (.bl true)) [9]) (.nil))))) (.seq (.ifs (.bin (.isnot) (.cal 87 (.cons (.var 0) (.cons (.var 6) (.cons (.var 2) (.nil))))) (.cst (.non))) (.seq (.exp (.mth (.append) (.var 4) (.cons (.var 3) (.nil)))) (.nop)) (.nop)) (.nop)))) (.seq (.fol [3] (.var 4) (.seq (.asg 7 (.com (.var 8) [8] (.iseq (.var 4)) (.and (.bin (.ne) (.var 8) (.var 3)) (.bin (.eq) (.com (.var 9) [9] (.iseq (.var 8)) (.bin (.notin) (.var 9) (.var 3)) [9]) (.lst (.nil)))) [8])) (.seq (.asg 5 (.bin (.add) (.var 5) (.bin (.mul) (.lst (.cons (.var 3) (.nil))) (.pri (.int) (.cons (.bin (.eq) (.var 7) (.lst (.nil))) (.nil)))))) (.nop)))) (.seq (.ret (.pri (.sorted) (.cons (.var 5) (.nil)))) (.nop)))) }
def f138 : FI := { ar := 1, nl := 14, body := .seq (.for [1] (.irng (.pri (.max2) (.cons (.cst (.int 4)) (.cons (.pri (.min2) (.cons (.cst (.int 9)) (.cons (.pri (.len) (.cons (.var 0) (.nil))) (.nil)))) (.nil))))) (.seq (.asg 4 (.cal 13 (.cons (.var 0) (.cons (.var 1) (.nil))))) (.seq (.asg 5 (.cal 24 (.cons (.var 4) (.nil)))) (.seq (.for [6] (.irng (.cst (.int 2))) (.seq (.asg 9 (.cal 88 (.cons (.var 4) (.cons (.var 5) (.cons (.cst (.int 4)) (.nil)))))) (.seq (.par [12, 13] (.cons (.cal 86 (.cons (.var 5) (.cons (.var 9) (.nil)))) (.cons (.lst (.nil)) (.nil)))) (.seq (.for [10] (.irng (.pri (.len) (.cons (.var 9) (.nil)))) (.seq (.asg 13 (.bin (.add) (.var 13) (.bin (.mul) (.lst (.cons (.var 10) (.nil))) (.pri (.int) (.cons (.bin (.eq) (.cal 86 (.cons (.var 5) (.cons (.bin (.add) (.slc (.var 9) (.nil) (.cons (.var 10) (.nil)) false) (.slc (.var 9) (.cons (.bin (.add) (.var 10) (.cst (.int 1))) (.nil)) (.nil) false)) (.nil)))) (.var 12)) (.nil)))))) (.nop))) (.seq (.ifs (.bin (.ne) (.cal 132 (.cons (.var 5) (.cons (.var 9) (.nil)))) (.var 13)) (.seq (.ret (.cst (.bl false))) (.nop)) (.nop)) (.seq (.asg 11 (.cal 49 (.cons (.var 4) (.cons (.var 5) (.nil))))) (.seq (.ifs (.bin (.ne) (.cal 135 (.cons (.var 5) (.cons (.var 9) (.cons (.var 11) (.nil))))) (.cal 137 (.cons (.var 5) (.cons (.var 9) (.cons (.var 11) (.nil)))))) (.seq (.ret (.cst (.bl false))) (.nop)) (.nop)) (.nop)))))))) (.seq (.ifs (.bin (.ne) (.lam (.cal 135 (.cons (.var 5) (.cons (.tup (.nil)) (.cons (.cst (.non)) (.nil)))))) (.cst (.str [102, 97, 99, 116, 115, 32, 118, 97, 108, 117, 101]))) (.seq (.ret (.cst (.bl false))) (.nop)) (.nop)) (.seq (.ifs (.bin (.ne) (.lam (.cal 132 (.cons (.var 5) (.cons (.tup (.cons (.cst (.non)) (.nil))) (.nil))))) (.cst (.str [102, 97, 99, 116, 115, 32, 118, 97, 108, 117, 101]))) (.seq (.ret (.cst (.bl false))) (.nop)) (.nop)) (.nop))))))) (.seq (.unp [7, 8] (.tup (.cons (.tup (.cons (.cst (.int 3)) (.cons (.tup (.nil)) (.cons (.cst (.str [])) (.nil))))) (.cons (.tup (.cons (.cst (.str [115, 111, 114, 116, 101, 100])) (.cons (.tup (.cons (.cst (.str [98])) (.cons (.cst (.str [99, 97])) (.cons (.cst (.str [99, 97, 98])) (.nil))))) (.nil)))) (.nil))))) (.seq (.asg 2 (.tup (.cons (.tup (.cons (.cst (.str [97, 104, 101, 97, 100])) (.cons (.cst (.str [97, 98])) (.cons (.cst (.str [98, 97])) (.nil))))) (.cons (.tup (.cons (.cst (.str [98, 101, 116, 119, 101, 101, 110])) (.cons (.cst (.str [98])) (.cons (.cst (.str [99])) (.cons (.cst (.str [97])) (.nil)))))) (.nil))))) (.seq (.ifs (.or (.bin (.ne) (.cal 132 (.cons (.var 7) (.cons (.tup (.cons (.var 8) (.cons (.tup (.cons (.cst (.str [97, 104, 101, 97, 100])) (.cons (.cst (.str [98])) (.cons (.cst (.str [99])) (.nil))))) (.nil)))) (.nil)))) (.lst (.cons (.cst (.int 0)) (.cons (.cst (.int 1)) (.nil))))) (.bin (.ne) (.cal 132 (.cons (.var 7) (.cons (.var 2) (.nil)))) (.lst (.nil)))) (.seq (.ret (.cst (.bl false))) (.nop)) (.nop)) (.seq (.asg 3 (.lst (.cons (.cal 135 (.cons (.var 7) (.cons (.bin (.add) (.tup (.cons (.var 8) (.nil))) (.var 2)) (.cons (.tup (.cons (.cst (.str [97, 104, 101, 97, 100])) (.cons (.cst (.str [99])) (.cons (.cst (.str [98])) (.nil))))) (.nil))))) (.cons (.cal 135 (.cons (.var 7) (.cons (.tup (.cons (.var 8) (.nil))) (.cons (.tup (.cons (.cst (.str [97, 104, 101, 97, 100])) (.cons (.cst (.str [97])) (.cons (.cst (.str [98])) (.nil))))) (.nil))))) (.nil))))) (.seq (.ret (.bin (.eq) (.bin (.add) (.var 3) (.lst (.cons (.cal 135 (.cons (.var 7) (.cons (.tup (.cons (.var 8) (.nil))) (.cons (.tup (.cons (.cst (.str [97, 104, 101, 97, 100])) (.cons (.cst (.str [97])) (.cons (.cst (.str [97, 98])) (.nil))))) (.nil))))) (.nil)))) (.lst (.cons (.lst (.cons (.tup (.cons (.cst (.int 0)) (.nil))) (.cons (.tup (.cons (.cst (.int 1)) (.cons (.cst (.int 2)) (.nil)))) (.nil)))) (.cons (.lst (.nil)) (.cons (.lst (.cons (.tup (.nil)) (.nil))) (.nil))))))) (.nop)))))) }
def f139 : FI := { ar := 1, nl := 5, body := .seq (.asg 1 (.cal 4 (.cons (.var 0) (.nil)))) (.seq (.ret (.co2 (.tup (.cons (.var 4) (.cons (.var 2) (.nil)))) [3, 4] (.ienu (.var 1)) [2] (.iseq (.slc (.var 1) (.cons (.bin (.add) (.var 3) (.cst (.int 1))) (.nil)) (.nil) false)) (.cst (.bl true)) [2] [3, 4, 2])) (.nop)) }
def f140 : FI := { ar := 2, nl := 5, body := .seq (.asg 2 (.com (.var 4) [4] (.iseq (.var 0)) (.bin (.lt) (.mth (.index) (.var 4) (.cons (.bin (.idx) (.var 1) (.cst (.int 0))) (.nil))) (.mth (.index) (.var 4) (.cons (.bin (.idx) (.var 1) (.cst (.int 1))) (.nil)))) [4])) (.seq (.asg 3 (.com (.var 4) [4] (.iseq (.var 0)) (.bin (.gt) (.mth (.index) (.var 4) (.cons (.bin (.idx) (.var 1) (.cst (.int 0))) (.nil))) (.mth (.index) (.var 4) (.cons (.bin (.idx) (.var 1) (.cst (.int 1))) (.nil)))) [4])) (.seq (.ret (.tup (.cons (.pri (.tuple) (.cons (.var 2) (.nil))) (.cons (.pri (.tuple) (.cons (.var 3) (.nil))) (.nil))))) (.nop))) }
def f141 : FI := { ar := 2, nl := 7, body := .seq (.exp (.cal 3 (.cons (.var 0) (.nil)))) (.seq (.exp (.cal 74 (.cons (.var 0) (.cons (.var 1) (.nil))))) (.seq (.asg 2 (.cal 79 (.cons (.var 0) (.cons (.var 1) (.nil))))) (.seq (.ifs (.bin (.lt) (.pri (.len) (.cons (.var 2) (.nil))) (.cst (.int 2))) (.seq (.ret (.cst (.non))) (.nop)) (.nop)) (.seq (.asg 3 (.cst (.non))) (.seq (.for [4] (.iseq (.cal 139 (.cons (.var 0) (.nil)))) (.seq (.asg 5 (.pri (.max1) (.cons (.com (.pri (.len) (.cons (.var 6) (.nil))) [6] (.iseq (.cal 140 (.cons (.var 2) (.cons (.var 4) (.nil))))) (.cst (.bl true)) [6]) (.nil)))) (.seq (.ifs (.or (.bin (.is) (.var 3) (.cst (.non))) (.bin (.lt) (.var 5) (.bin (.idx) (.var 3) (.cst (.int 0))))) (.seq (.asg 3 (.tup (.cons (.var 5) (.cons (.var 4) (.nil))))) (.nop)) (.nop)) (.nop)))) (.seq (.ret (.var 3)) (.nop))))))) }
def f142 : FI := { ar := 1, nl := 5, body := .seq (.unp [2, 3] (.tup (.cons (.cal 21 (.cons (.var 0) (.nil))) (.cons (.lst (.nil)) (.nil))))) (.seq (.for [1] (.irng (.pri (.len) (.cons (.var 2) (.nil)))) (.seq (.asg 3 (.bin (.add) (.var 3) (.com (.tup (.cons (.bin (.idx) (.var 2) (.var 1)) (.cons (.var 4) (.nil)))) [4] (.iseq (.slc (.var 2) (.cons (.bin (.add) (.var 1) (.cst (.int 1))) (.nil)) (.nil) false)) (.cst (.bl true)) [4]))) (.nop))) (.seq (.ret (.var 3)) (.nop))) }
def f143 : FI := { ar := 1, nl := 13, body := .seq (.for [1] (.irng (.pri (.max2) (.cons (.cst (.int 6)) (.cons (.pri (.min2) (.cons (.cst (.int 14)) (.cons (.pri (.len) (.cons (.var 0) (.nil))) (.nil)))) (.nil))))) (.seq (.asg 2 (.cal 13 (.cons (.var 0) (.cons (.var 1) (.nil))))) (.seq (.asg 3 (.cal 24 (.cons (.var 2) (.nil)))) (.seq (.for [4] (.irng (.cst (.int 3))) (.seq (.par [6, 9] (.cons (.cal 88 (.cons (.var 2) (.cons (.var 3) (.cons (.cst (.int 3)) (.nil))))) (.cons (.cst (.non)) (.nil)))) (.seq (.asg 7 (.cal 86 (.cons (.var 3) (.cons (.var 6) (.nil))))) (.seq (.for [8] (.iseq (.cal 142 (.cons (.var 3) (.nil)))) (.seq (.asg 10 (.pri (.len) (.cons (.com (.var 12) [12] (.iseq (.var 7)) (.bin (.lt) (.mth (.index) (.var 12) (.cons (.bin (.idx) (.var 8) (.cst (.int 0))) (.nil))) (.mth (.index) (.var 12) (.cons (.bin (.idx) (.var 8) (.cst (.int 1))) (.nil)))) [12]) (.nil)))) (.seq (.asg 11 (.pri (.max2) (.cons (.var 10) (.cons (.bin (.sub) (.pri (.len) (.cons (.var 7) (.nil))) (.var 10)) (.nil))))) (.seq (.asg 9 (.ite (.or (.bin (.is) (.var 9) (.cst (.non))) (.bin (.lt) (.var 11) (.bin (.idx) (.var 9) (.cst (.int 0))))) (.tup (.cons (.var 11) (.cons (.var 8) (.nil)))) (.var 9))) (.nop))))) (.seq (.ifs (.bin (.ne) (.cal 141 (.cons (.var 3) (.cons (.var 6) (.nil)))) (.ite (.bin (.gt) (.pri (.len) (.cons (.var 7) (.nil))) (.cst (.int 1))) (.var 9) (.cst (.non)))) (.seq (.ret (.cst (.bl false))) (.nop)) (.nop)) (.nop)))))) (.seq (.ifs (.bin (.ne) (.lam (.cal 141 (.cons (.var 3) (.cons (.cst (.non)) (.nil))))) (.cst (.str [102, 97, 99, 116, 115, 32, 118, 97, 108, 117, 101]))) (.seq (.ret (.cst (.bl false))) (.nop)) (.nop)) (.seq (.ifs (.bin (.ne) (.lam (.cal 141 (.cons (.cst (.non)) (.cons (.cst (.non)) (.nil))))) (.cst (.str [109, 97, 110, 110, 101, 114, 32, 118, 97, 108, 117, 101]))) (.seq (.ret (.cst (.bl false))) (.nop)) (.nop)) (.nop))))))) (.seq (.unp [5, 6] (.tup (.cons (.tup (.cons (.cst (.int 3)) (.cons (.tup (.nil)) (.cons (.cst (.str [])) (.nil))))) (.cons (.tup (.cons (.tup (.cons (.cst (.str [115, 111, 114, 116, 101, 100])) (.cons (.tup (.cons (.cst (.str [98])) (.cons (.cst (.str [99, 97])) (.cons (.cst (.str [99, 97, 98])) (.nil))))) (.nil)))) (.nil))) (.nil))))) (.seq (.ifs (.or (.bin (.ne) (.cal 141 (.cons (.var 5) (.cons (.tup (.nil)) (.nil)))) (.tup (.cons (.cst (.int 3)) (.cons (.tup (.cons (.cst (.str [97])) (.cons (.cst (.str [98])) (.nil)))) (.nil))))) (.bin (.ne) (.cal 141 (.cons (.var 5) (.cons (.var 6) (.nil)))) (.tup (.cons (.cst (.int 2)) (.cons (.tup (.cons (.cst (.str [97])) (.cons (.cst (.str [98])) (.nil)))) (.nil)))))) (.seq (.ret (.cst (.bl false))) (.nop)) (.nop)) (.seq (.ifs (.bin (.isnot) (.cal 141 (.cons (.var 5) (.cons (.tup (.cons (.tup (.cons (.cst (.str [97, 104, 101, 97, 100])) (.cons (.cst (.str [97])) (.cons (.cst (.str [98])) (.nil))))) (.cons (.tup (.cons (.cst (.str [98, 101, 116, 119, 101, 101, 110])) (.cons (.cst (.str [97])) (.cons (.cst (.str [98])) (.cons (.cst (.str [99])) (.nil)))))) (.nil)))) (.nil)))) (.cst (.non))) (.seq (.ret (.cst (.bl false))) (.nop)) (.nop)) (.seq (.ret (.bin (.eq) (.cal 141 (.cons (.var 5) (.cons (.tup (.cons (.tup (.cons (.cst (.str [98, 101, 116, 119, 101, 101, 110])) (.cons (.cst (.str [97])) (.cons (.cst (.str [98])) (.cons (.cst (.str [99])) (.nil)))))) (.nil))) (.nil)))) (.tup (.cons (.cst (.int 1)) (.cons (.tup (.cons (.cst (.str [97])) (.cons (.cst (.str [98])) (.nil)))) (.nil)))))) (.nop))))) }
def f145 : FI := { ar := 5, nl := 10, body := .seq (.for [5] (.iseq (.var 2)) (.seq (.unp [6, 7] (.cal 140 (.cons (.var 0) (.cons (.var 5) (.nil))))) (.seq (.ifs (.and (.bin (.ne) (.var 6) (.tup (.nil))) (.bin (.ne) (.var 7) (.tup (.nil)))) (.seq (.asg 8 (.cal 144 (.cons (.var 6) (.cons (.var 1) (.cons (.var 2) (.cons (.bin (.sub) (.var 3) (.cst (.int 1))) (.cons (.var 4) (.nil)))))))) (.seq (.asg 9 (.ite (.bin (.is) (.var 8) (.cst (.non))) (.cst (.non)) (.cal 144 (.cons (.var 7) (.cons (.var 1) (.cons (.var 2) (.cons (.bin (.sub) (.var 3) (.cst (.int 1))) (.cons (.var 4) (.nil))))))))) (.seq (.ifs (.bin (.isnot) (.var 9) (.cst (.non))) (.seq (.ret (.bin (.add) (.var 5) (.tup (.cons (.var 8) (.cons (.var 9) (.nil)))))) (.nop)) (.nop)) (.nop)))) (.nop)) (.nop)))) (.seq (.ret (.cst (.non))) (.nop)) }
def f148 : FI := { ar := 3, nl := 4, body := .seq (.asg 3 (.cal 147 (.cons (.var 0) (.cons (.var 1) (.cons (.var 2) (.nil)))))) (.seq (.ret (.ite (.bin (.eq) (.var 3) (.lst (.nil))) (.cst (.non)) (.bin (.idx) (.cal 146 (.cons (.var 0) (.cons (.var 3) (.cons (.var 2) (.nil))))) (.cst (.int 0))))) (.nop)) }
def f149 : FI := { ar := 3, nl := 4, body := .seq (.asg 3 (.cal 147 (.cons (.var 0) (.cons (.var 1) (.cons (.var 2) (.nil)))))) (.seq (.ret (.ite (.bin (.eq) (.var 3) (.lst (.nil))) (.cst (.non)) (.bin (.idx) (.cal 146 (.cons (.var 0) (.cons (.var 3) (.cons (.var 2) (.nil))))) (.cst (.int 1))))) (.nop)) }
def f150 : FI := { ar := 2, nl := 3, body := .seq (.ret (.bin (.ne) (.com (.var 2) [2] (.iseq (.var 0)) (.bin (.eq) (.var 2) (.var 1)) [2]) (.lst (.nil)))) (.nop) }
def f151 : FI := { ar := 2, nl := 2, body := .seq (.ifs (.pri (.isi (.bool)) (.cons (.var 1) (.nil))) (.seq (.ret (.cst (.bl true))) (.nop)) (.nop)) (.seq (.ifs (.or (.not (.pri (.isi (.tuple)) (.cons (.var 1) (.nil)))) (.or (.bin (.ne) (.pri (.len) (.cons (.var 1) (.nil))) (.cst (.int 4))) (.not (.cal 150 (.cons (.var 0) (.cons (.slc (.var 1) (.nil) (.cons (.cst (.int 2)) (.nil)) false) (.nil))))))) (.seq (.ret (.cst (.bl false))) (.nop)) (.nop)) (.seq (.ret (.and (.cal 151 (.cons (.var 0) (.cons (.bin (.idx) (.var 1) (.cst (.int 2))) (.nil)))) (.cal 151 (.cons (.var 0) (.cons (.bin (.idx) (.var 1) (.cst (.int 3))) (.nil)))))) (.nop))) }
def f152 : FI := { ar := 2, nl := 2, body := .seq (.whl (.not (.pri (.isi (.bool)) (.cons (.var 1) (.nil)))) (.seq (.asg 1 (.ite (.bin (.lt) (.mth (.index) (.var 0) (.cons (.bin (.idx) (.var 1) (.cst (.int 0))) (.nil))) (.mth (.index) (.var 0) (.cons (.bin (.idx) (.var 1) (.cst (.int 1))) (.nil)))) (.bin (.idx) (.var 1) (.cst (.int 2))) (.bin (.idx) (.var 1) (.cst (.int 3))))) (.nop))) (.seq (.ret (.var 1)) (.nop)) }
def f153 : FI := { ar := 4, nl := 6, body := .seq (.exp (.cal 3 (.cons (.var 0) (.nil)))) (.seq (.exp (.cal 74 (.cons (.var 0) (.cons (.var 1) (.nil))))) (.seq (.exp (.cal 75 (.cons (.var 0) (.cons (.var 2) (.nil))))) (.seq (.ifs (.not (.cal 151 (.cons (.cal 139 (.cons (.var 0) (.nil))) (.cons (.var 3) (.nil))))) (.seq (.rse 6) (.nop)) (.nop)) (.seq (.asg 4 (.cal 79 (.cons (.var 0) (.cons (.var 1) (.nil))))) (.seq (.ret (.bin (.eq) (.com (.var 5) [5] (.iseq (.var 4)) (.bin (.ne) (.cal 152 (.cons (.var 5) (.cons (.var 3) (.nil)))) (.cal 77 (.cons (.var 0) (.cons (.var 5) (.cons (.var 2) (.nil)))))) [5]) (.lst (.nil)))) (.nop)))))) }
def f154 : FI := { ar := 1, nl := 1, body := .seq (.ret (.ite (.pri (.isi (.bool)) (.cons (.var 0) (.nil))) (.cst (.int 0)) (.bin (.add) (.cst (.int 1)) (.pri (.max2) (.cons (.cal 154 (.cons (.bin (.idx) (.var 0) (.cst (.int 2))) (.nil))) (.cons (.cal 154 (.cons (.bin (.idx) (.var 0) (.cst (.int 3))) (.nil))) (.nil))))))) (.nop) }
def f155 : FI := { ar := 2, nl := 2, body := .seq (.exp (.cal 3 (.cons (.var 0) (.nil)))) (.seq (.ifs (.not (.cal 151 (.cons (.cal 139 (.cons (.var 0) (.nil))) (.cons (.var 1) (.nil))))) (.seq (.rse 6) (.nop)) (.nop)) (.seq (.ret (.cal 154 (.cons (.var 1) (.nil)))) (.nop))) }
def f156 : FI := { ar := 4, nl := 9, body := .seq (.asg 4 (.com (.var 8) [8] (.iseq (.var 0)) (.bin (.notin) (.var 8) (.var 1)) [8])) (.seq (.ifs (.or (.bin (.eq) (.var 4) (.lst (.nil))) (.bin (.eq) (.pri (.len) (.cons (.var 4) (.nil))) (.pri (.len) (.cons (.var 0) (.nil))))) (.seq (.ret (.cst (.bl true))) (.nop)) (.nop)) (.seq (.for [5] (.iseq (.ite (.bin (.gt) (.var 3) (.cst (.int 0))) (.var 2) (.lst (.nil)))) (.seq (.asg 6 (.com (.var 8) [8] (.iseq (.var 0)) (.bin (.lt) (.mth (.index) (.var 8) (.cons (.bin (.idx) (.var 5) (.cst (.int 0))) (.nil))) (.mth (.index) (.var 8) (.cons (.bin (.idx) (.var 5) (.cst (.int 1))) (.nil)))) [8])) (.seq (.asg 7 (.com (.var 8) [8] (.iseq (.var 0)) (.bin (.notin) (.var 8) (.var 6)) [8])) (.seq (.ifs (.and (.bin (.ne) (.var 6) (.lst (.nil))) (.bin (.ne) (.var 7) (.lst (.nil)))) (.seq (.ifs (.cal 156 (.cons (.var 6) (.cons (.var 1) (.cons (.var 2) (.cons (.bin (.sub) (.var 3) (.cst (.int 1))) (.nil)))))) (.seq (.ifs (.cal 156 (.cons (.var 7) (.cons (.var 1) (.cons (.var 2) (.cons (.bin (.sub) (.var 3) (.cst (.int 1))) (.nil)))))) (.seq (.ret (.cst (.bl true))) (.nop)) (.nop)) (.nop)) (.nop)) (.nop)) (.nop)) (.nop))))) (.seq (.ret (.cst (.bl false))) (.nop)))) }
def f157 : FI := { ar := 2, nl := 4, body := .seq (.asg 2 (.cst (.int 0))) (.seq (.whl (.pri (.isi (.tuple)) (.cons (.var 1) (.nil))) (.seq (.asg 3 (.bin (.gt) (.mth (.index) (.var 0) (.cons (.bin (.idx) (.var 1) (.cst (.int 0))) (.nil))) (.mth (.index) (.var 0) (.cons (.bin (.idx) (.var 1) (.cst (.int 1))) (.nil))))) (.seq (.par [1, 2] (.cons (.ite (.var 3) (.bin (.idx) (.var 1) (.cst (.int 3))) (.bin (.idx) (.var 1) (.cst (.int 2)))) (.cons (.bin (.add) (.var 2) (.cst (.int 1))) (.nil)))) (.nop)))) (.seq (.ret (.tup (.cons (.var 1) (.cons (.var 2) (.nil))))) (.nop))) }
def f158 : FI := { ar := 4, nl := 5, body := .seq (.ret (.bin (.eq) (.com (.var 4) [4] (.iseq (.var 1)) (.bin (.ne) (.bin (.idx) (.cal 157 (.cons (.var 4) (.cons (.var 3) (.nil)))) (.cst (.int 0))) (.cal 85 (.cons (.var 0) (.cons (.var 4) (.cons (.var 2) (.nil)))))) [4]) (.lst (.nil)))) (.nop) }
def f159 : FI := { ar := 1, nl := 1, body := .seq (.ret (.ite (.pri (.isi (.tuple)) (.cons (.var 0) (.nil))) (.bin (.add) (.cst (.int 1)) (.pri (.max2) (.cons (.cal 159 (.cons (.bin (.idx) (.var 0) (.cst (.int 2))) (.nil))) (.cons (.cal 159 (.cons (.bin (.idx) (.var 0) (.cst (.int 3))) (.nil))) (.nil))))) (.cst (.int 0)))) (.nop) }
def f160 : FI := { ar := 2, nl := 3, body := .seq (.ifs (.pri (.isi (.bool)) (.cons (.var 1) (.nil))) (.seq (.ret (.cst (.bl true))) (.nop)) (.nop)) (.seq (.ifs (.or (.not (.pri (.isi (.tuple)) (.cons (.var 1) (.nil)))) (.bin (.ne) (.pri (.len) (.cons (.var 1) (.nil))) (.cst (.int 4)))) (.seq (.ret (.cst (.bl false))) (.nop)) (.nop)) (.seq (.ifs (.bin (.eq) (.com (.var 2) [2] (.iseq (.var 0)) (.bin (.eq) (.var 2) (.slc (.var 1) (.nil) (.cons (.cst (.int 2)) (.nil)) false)) [2]) (.lst (.nil))) (.seq (.ret (.cst (.bl false))) (.nop)) (.nop)) (.seq (.ret (.and (.cal 160 (.cons (.var 0) (.cons (.bin (.idx) (.var 1) (.cst (.int 2))) (.nil)))) (.cal 160 (.cons (.var 0) (.cons (.bin (.idx) (.var 1) (.cst (.int 3))) (.nil)))))) (.nop)))) }
def f161 : FI := { ar := 5, nl := 6, body := .seq (.asg 5 (.cal 153 (.cons (.var 0) (.cons (.var 1) (.cons (.var 2) (.cons (.var 3) (.nil))))))) (.seq (.ifs (.not (.cal 17 (.cons (.var 5) (.cons (.cal 158 (.cons (.var 0) (.cons (.var 4) (.cons (.var 2) (.cons (.var 3) (.nil)))))) (.nil))))) (.seq (.ret (.cst (.bl false))) (.nop)) (.nop)) (.seq (.ret (.bin (.eq) (.cal 155 (.cons (.var 0) (.cons (.var 3) (.nil)))) (.cal 159 (.cons (.var 3) (.nil))))) (.nop))) }
def f162 : FI := { ar := 4, nl := 12, body := .seq (.par [7, 8] (.cons (.cal 86 (.cons (.var 1) (.cons (.var 2) (.nil)))) (.cons (.cal 142 (.cons (.var 1) (.nil))) (.nil)))) (.seq (.ifs (.bin (.eq) (.var 7) (.lst (.nil))) (.seq (.ret (.bin (.eq) (.lst (.cons (.cal 148 (.cons (.var 1) (.cons (.var 2) (.cons (.var 3) (.nil))))) (.cons (.cal 149 (.cons (.var 1) (.cons (.var 2) (.cons (.var 3) (.nil))))) (.nil)))) (.lst (.cons (.cst (.non)) (.cons (.cst (.non)) (.nil)))))) (.nop)) (.nop)) (.seq (.par [9, 10] (.cons (.com (.var 11) [11] (.iseq (.var 7)) (.cal 85 (.cons (.var 1) (.cons (.var 11) (.cons (.var 3) (.nil))))) [11]) (.cons (.cst (.int 0)) (.nil)))) (.seq (.whl (.not (.cal 156 (.cons (.var 7) (.cons (.var 9) (.cons (.var 8) (.cons (.var 10) (.nil))))))) (.seq (.asg 10 (.bin (.add) (.var 10) (.cst (.int 1)))) (.nop))) (.seq (.asg 4 (.cal 149 (.cons (.var 1) (.cons (.var 2) (.cons (.var 3) (.nil)))))) (.seq (.ifs (.bin (.ne) (.cal 148 (.cons (.var 1) (.cons (.var 2) (.cons (.var 3) (.nil))))) (.var 10)) (.seq (.ret (.cst (.bl false))) (.nop)) (.nop)) (.seq (.ifs (.or (.not (.cal 160 (.cons (.var 8) (.cons (.var 4) (.nil))))) (.bin (.gt) (.cal 159 (.cons (.var 4) (.nil))) (.var 10))) (.seq (.ret (.cst (.bl false))) (.nop)) (.nop)) (.seq (.asg 5 (.lst (.cons (.var 4) (.cons (.cal 29 (.cons (.var 0) (.cons (.var 4) (.nil)))) (.cons (.cal 29 (.cons (.var 0) (.cons (.var 4) (.nil)))) (.nil)))))) (.seq (.for [6] (.iseq (.bin (.add) (.var 5) (.lst (.cons (.cst (.bl true)) (.cons (.bin (.add) (.bin (.idx) (.var 8) (.cst (.int 0))) (.tup (.cons (.var 4) (.cons (.cst (.bl false)) (.nil))))) (.nil)))))) (.seq (.ifs (.not (.cal 160 (.cons (.var 8) (.cons (.var 6) (.nil))))) (.seq (.ifs (.bin (.ne) (.lam (.cal 153 (.cons (.var 1) (.cons (.var 2) (.cons (.var 3) (.cons (.var 6) (.nil))))))) (.cst (.str [112, 108, 97, 110, 32, 118, 97, 108, 117, 101]))) (.seq (.ret (.cst (.bl false))) (.nop)) (.nop)) (.nop)) (.seq (.ifs (.not (.cal 161 (.cons (.var 1) (.cons (.var 2) (.cons (.var 3) (.cons (.var 6) (.cons (.var 7) (.nil)))))))) (.seq (.ret (.cst (.bl false))) (.nop)) (.nop)) (.nop))) (.nop))) (.seq (.ret (.cst (.bl true))) (.nop)))))))))) }
def f163 : FI := { ar := 1, nl := 11, body := .seq (.for [1] (.irng (.pri (.max2) (.cons (.cst (.int 4)) (.cons (.pri (.min2) (.cons (.cst (.int 9)) (.cons (.pri (.len) (.cons (.var 0) (.nil))) (.nil)))) (.nil))))) (.seq (.asg 2 (.cal 13 (.cons (.var 0) (.cons (.var 1) (.nil))))) (.seq (.asg 3 (.cal 24 (.cons (.var 2) (.nil)))) (.seq (.for [4] (.irng (.cst (.int 2))) (.seq (.unp [7, 6] (.tup (.cons (.cal 88 (.cons (.var 2) (.cons (.var 3) (.cons (.cst (.int 4)) (.nil))))) (.cons (.cal 49 (.cons (.var 2) (.cons (.var 3) (.nil)))) (.nil))))) (.seq (.asg 9 (.pri (.len) (.cons (.cal 86 (.cons (.var 3) (.cons (.var 7) (.nil)))) (.nil)))) (.seq (.ifs (.bin (.gt) (.var 9) (.cst (.int 24))) (.seq (.ifs (.bin (.ne) (.lam (.cal 148 (.cons (.var 3) (.cons (.var 7) (.cons (.var 6) (.nil)))))) (.cst (.str [109, 97, 110, 121, 32, 118, 97, 108, 117, 101]))) (.seq (.ret (.cst (.bl false))) (.nop)) (.nop)) (.seq (.ifs (.bin (.ne) (.lam (.cal 149 (.cons (.var 3) (.cons (.var 7) (.cons (.cst (.non)) (.nil)))))) (.cst (.str [102, 97, 99, 116, 115, 32, 118, 97, 108, 117, 101]))) (.seq (.ret (.cst (.bl false))) (.nop)) (.nop)) (.nop))) (.seq (.ifs (.and (.bin (.lt) (.var 9) (.cst (.int 13))) (.not (.cal 162 (.cons (.var 2) (.cons (.var 3) (.cons (.var 7) (.cons (.var 6) (.nil)))))))) (.seq (.ret (.cst (.bl false))) (.nop)) (.nop)) (.nop))) (.nop))))) (.seq (.ifs (.bin (.ne) (.lam (.cal 155 (.cons (.var 3) (.cons (.tup (.cons (.cst (.str [98])) (.cons (.cst (.str [97])) (.cons (.cst (.bl true)) (.cons (.cst (.bl false)) (.nil)))))) (.nil))))) (.cst (.str [112, 108, 97, 110, 32, 118, 97, 108, 117, 101]))) (.seq (.ret (.cst (.bl false))) (.nop)) (.nop)) (.nop)))))) (.seq (.unp [5, 6] (.tup (.cons (.tup (.cons (.cst (.int 3)) (.cons (.tup (.nil)) (.cons (.cst (.str [])) (.nil))))) (.cons (.tup (.cons (.cst (.str [115, 111, 114, 116, 101, 100])) (.cons (.tup (.cons (.cst (.str [97])) (.cons (.cst (.str [98])) (.cons (.cst (.str [99])) (.nil))))) (.nil)))) (.nil))))) (.seq (.ifs (.bin (.ne) (.cal 148 (.cons (.var 5) (.cons (.tup (.nil)) (.cons (.var 6) (.nil))))) (.cst (.int 2))) (.seq (.ret (.cst (.bl false))) (.nop)) (.nop)) (.seq (.ifs (.not (.cal 162 (.cons (.cal 13 (.cons (.var 0) (.cons (.cst (.int 0)) (.nil)))) (.cons (.var 5) (.cons (.tup (.nil)) (.cons (.var 6) (.nil))))))) (.seq (.ret (.cst (.bl false))) (.nop)) (.nop)) (.seq (.unp [7, 8] (.tup (.cons (.tup (.cons (.tup (.cons (.cst (.str [115, 111, 114, 116, 101, 100])) (.cons (.tup (.cons (.cst (.str [98])) (.cons (.cst (.str [99, 97])) (.cons (.cst (.str [99, 97, 98])) (.nil))))) (.nil)))) (.nil))) (.cons (.lst (.cons (.tup (.cons (.cst (.str [97, 104, 101, 97, 100])) (.cons (.cst (.str [97])) (.cons (.cst (.str [99])) (.nil))))) (.cons (.tup (.cons (.cst (.str [97, 104, 101, 97, 100])) (.cons (.cst (.str [98])) (.cons (.cst (.str [99, 99])) (.nil))))) (.nil)))) (.nil))))) (.seq (.ifs (.bin (.ne) (.com (.cal 148 (.cons (.var 5) (.cons (.var 7) (.cons (.var 10) (.nil))))) [10] (.iseq (.var 8)) (.cst (.bl true)) [10]) (.lst (.cons (.cst (.int 1)) (.cons (.cst (.int 0)) (.nil))))) (.seq (.ret (.cst (.bl false))) (.nop)) (.nop)) (.seq (.ifs (.bin (.ne) (.cal 148 (.cons (.tup (.cons (.cst (.int 4)) (.cons (.tup (.nil)) (.cons (.cst (.str [])) (.nil))))) (.cons (.tup (.nil)) (.cons (.tup (.cons (.cst (.str [115, 111, 114, 116, 101, 100])) (.cons (.tup (.cons (.cst (.str [97])) (.cons (.cst (.str [98])) (.cons (.cst (.str [99])) (.cons (.cst (.str [100])) (.nil)))))) (.nil)))) (.nil))))) (.cst (.int 3))) (.seq (.ret (.cst (.bl false))) (.nop)) (.nop)) (.seq (.ifs (.cal 153 (.cons (.var 5) (.cons (.var 7) (.cons (.bin (.idx) (.var 8) (.cst (.int 0))) (.cons (.cst (.bl true)) (.nil)))))) (.seq (.ret (.cst (.bl false))) (.nop)) (.nop)) (.seq (.ret (.cal 153 (.cons (.var 5) (.cons (.var 7) (.cons (.bin (.idx) (.var 8) (.cst (.int 0))) (.cons (.tup (.cons (.cst (.str [97])) (.cons (.cst (.str [99])) (.cons (.cst (.bl true)) (.cons (.cst (.bl false)) (.nil)))))) (.nil))))))) (.nop))))))))) }
def f164 : FI := { ar := 2, nl := 4, body := .seq (.asg 2 (.dsp (.bin (.idx) (.var 1) (.cst (.int 0))) (.bin (.idx) (.var 1) (.cst (.int 1))) (.bin (.idx) (.var 1) (.cst (.int 1))) (.bin (.idx) (.var 1) (.cst (.int 0))))) (.seq (.ret (.pri (.tuple) (.cons (.com (.mth (.dget) (.var 2) (.cons (.var 3) (.cons (.var 3) (.nil)))) [3] (.iseq (.var 0)) (.cst (.bl true)) [3]) (.nil)))) (.nop)) }
def f165 : FI := { ar := 3, nl := 5, body := .seq (.exp (.cal 3 (.cons (.var 0) (.nil)))) (.seq (.exp (.cal 57 (.cons (.var 0) (.cons (.var 1) (.nil))))) (.seq (.exp (.cal 56 (.cons (.var 0) (.cons (.var 2) (.nil))))) (.seq (.asg 3 (.cal 64 (.cons (.var 0) (.cons (.var 1) (.cons (.var 2) (.nil)))))) (.seq (.ret (.pri (.sorted) (.cons (.com (.var 4) [4] (.iseq (.cal 139 (.cons (.var 0) (.nil)))) (.bin (.eq) (.cal 64 (.cons (.var 0) (.cons (.cal 164 (.cons (.var 1) (.cons (.var 4) (.nil)))) (.cons (.var 2) (.nil))))) (.var 3)) [4]) (.nil)))) (.nop))))) }
def f166 : FI := { ar := 1, nl := 16, body := .seq (.for [1] (.irng (.pri (.max2) (.cons (.cst (.int 6)) (.cons (.pri (.min2) (.cons (.cst (.int 14)) (.cons (.pri (.len) (.cons (.var 0) (.nil))) (.nil)))) (.nil))))) (.seq (.asg 4 (.cal 13 (.cons (.var 0) (.cons (.var 1) (.nil))))) (.seq (.asg 5 (.cal 24 (.cons (.var 4) (.nil)))) (.seq (.for [6] (.irng (.cst (.int 4))) (.seq (.unp [11, 12] (.tup (.cons (.cal 15 (.cons (.var 4) (.cons (.cal 22 (.cons (.var 5) (.nil))) (.nil)))) (.cons (.cal 48 (.cons (.var 4) (.cons (.var 5) (.cons (.cal 14 (.cons (.var 4) (.cons (.cst (.int 7)) (.nil)))) (.nil))))) (.nil))))) (.seq (.asg 9 (.mut (.lst (.nil)))) (.seq (.for [10] (.iseq (.cal 142 (.cons (.var 5) (.nil)))) (.seq (.asg 13 (.mut (.pri (.list) (.cons (.var 11) (.nil))))) (.seq (.par [14, 15] (.cons (.mth (.index) (.var 11) (.cons (.bin (.idx) (.var 10) (.cst (.int 0))) (.nil))) (.cons (.mth (.index) (.var 11) (.cons (.bin (.idx) (.var 10) (.cst (.int 1))) (.nil))) (.nil)))) (.seq (.st2 (.var 13) (.var 14) (.var 13) (.var 15) (.tup (.cons (.bin (.idx) (.var 10) (.cst (.int 1))) (.cons (.bin (.idx) (.var 10) (.cst (.int 0))) (.nil))))) (.seq (.ifs (.bin (.eq) (.cal 68 (.cons (.var 5) (.cons (.pri (.tuple) (.cons (.var 13) (.nil))) (.cons (.var 12) (.nil))))) (.cal 68 (.cons (.var 5) (.cons (.var 11) (.cons (.var 12) (.nil)))))) (.seq (.exp (.mth (.append) (.var 9) (.cons (.var 10) (.nil)))) (.nop)) (.nop)) (.nop)))))) (.seq (.ifs (.bin (.ne) (.cal 165 (.cons (.var 5) (.cons (.var 11) (.cons (.var 12) (.nil))))) (.pri (.sorted) (.cons (.var 9) (.nil)))) (.seq (.ret (.cst (.bl false))) (.nop)) (.nop)) (.nop)))))) (.seq (.ifs (.bin (.ne) (.lam (.cal 165 (.cons (.var 5) (.cons (.cst (.non)) (.cons (.cst (.non)) (.nil)))))) (.cst (.str [97, 108, 112, 104, 97, 98, 101, 116, 32, 118, 97, 108, 117, 101]))) (.seq (.ret (.cst (.bl false))) (.nop)) (.nop)) (.seq (.ifs (.bin (.ne) (.lam (.cal 165 (.cons (.var 5) (.cons (.var 11) (.cons (.cst (.non)) (.nil)))))) (.cst (.str [119, 111, 114, 100, 115, 32, 118, 97, 108, 117, 101]))) (.seq (.ret (.cst (.bl false))) (.nop)) (.nop)) (.nop))))))) (.seq (.unp [7, 8] (.tup (.cons (.tup (.cons (.cst (.int 3)) (.cons (.tup (.nil)) (.cons (.cst (.str [])) (.nil))))) (.cons (.tup (.cons (.cst (.str [97])) (.cons (.cst (.str [98])) (.cons (.cst (.str [99])) (.nil))))) (.nil))))) (.seq (.asg 2 (.lst (.cons (.cal 165 (.cons (.var 7) (.cons (.var 8) (.cons (.tup (.cons (.cst (.str [97])) (.cons (.cst (.str [97, 98])) (.cons (.cst (.str [97, 99])) (.nil))))) (.nil))))) (.cons (.cal 165 (.cons (.var 7) (.cons (.var 8) (.cons (.tup (.cons (.cst (.str [99, 97])) (.cons (.cst (.str [99, 98])) (.nil)))) (.nil))))) (.cons (.cal 165 (.cons (.var 7) (.cons (.var 8) (.cons (.var 8) (.nil))))) (.nil)))))) (.seq (.ifs (.bin (.ne) (.var 2) (.lst (.cons (.lst (.cons (.tup (.cons (.cst (.str [97])) (.cons (.cst (.str [98])) (.nil)))) (.nil))) (.cons (.lst (.cons (.tup (.cons (.cst (.str [98])) (.cons (.cst (.str [99])) (.nil)))) (.nil))) (.cons (.lst (.nil)) (.nil)))))) (.seq (.ret (.cst (.bl false))) (.nop)) (.nop)) (.seq (.asg 3 (.tup (.cons (.cst (.int 2)) (.cons (.tup (.cons (.cst (.str [98, 97])) (.nil))) (.cons (.cst (.str [])) (.nil)))))) (.seq (.ret (.bin (.eq) (.cal 165 (.cons (.var 3) (.cons (.tup (.cons (.cst (.str [97])) (.cons (.cst (.str [98])) (.cons (.cst (.str [98, 97])) (.nil))))) (.cons (.tup (.cons (.cst (.str [98])) (.cons (.cst (.str [98, 97])) (.nil)))) (.nil))))) (.lst (.cons (.tup (.cons (.cst (.str [97])) (.cons (.cst (.str [98])) (.nil)))) (.nil))))) (.nop)))))) }
def f167 : FI := { ar := 1, nl := 2, body := .seq (.ret (.mth (.join) (.cst (.str [32])) (.cons (.com (.var 1) [1] (.iseq (.var 0)) (.bin (.ne) (.var 1) (.cst (.str []))) [1]) (.nil)))) (.nop) }
def f168 : FI := { ar := 2, nl := 7, body := .seq (.unp [3, 4, 5] (.var 0)) (.seq (.asg 2 (.lst (.cons (.bin (.add) (.cst (.str [108, 101, 116, 116, 101, 114, 115, 32])) (.pri (.str) (.cons (.var 3) (.nil)))) (.cons (.cal 167 (.cons (.bin (.add) (.tup (.cons (.cst (.str [112, 97, 105, 114, 115])) (.nil))) (.var 4)) (.nil))) (.cons (.cal 167 (.cons (.tup (.cons (.cst (.str [108, 97, 115, 116])) (.cons (.var 5) (.nil)))) (.nil))) (.nil)))))) (.seq (.ret (.mth (.join) (.cst (.str [10])) (.cons (.bin (.add) (.var 2) (.com (.cal 167 (.cons (.tup (.cons (.cst (.str [119, 111, 114, 100])) (.cons (.var 6) (.nil)))) (.nil))) [6] (.iseq (.var 1)) (.cst (.bl true)) [6])) (.nil)))) (.nop))) }
def f169 : FI := { ar := 1, nl := 1, body := .seq (.ret (.mth (.join) (.cst (.str [32])) (.cons (.slc (.mth (.split) (.var 0) (.cons (.cst (.str [32])) (.nil))) (.cons (.cst (.int 1)) (.nil)) (.nil) false) (.nil)))) (.nop) }
def f170 : FI := { ar := 1, nl := 4, body := .seq (.ifs (.or (.bin (.lt) (.pri (.len) (.cons (.var 0) (.nil))) (.cst (.int 3))) (.bin (.notin) (.bin (.idx) (.var 0) (.cst (.int 0))) (.tup (.cons (.cst (.str [108, 101, 116, 116, 101, 114, 115, 32, 50])) (.cons (.cst (.str [108, 101, 116, 116, 101, 114, 115, 32, 51])) (.cons (.cst (.str [108, 101, 116, 116, 101, 114, 115, 32, 52])) (.cons (.cst (.str [108, 101, 116, 116, 101, 114, 115, 32, 53])) (.nil)))))))) (.seq (.ret (.cst (.non))) (.nop)) (.nop)) (.seq (.asg 1 (.pri (.tuple) (.cons (.com (.var 2) [2] (.iseq (.slc (.mth (.split) (.bin (.idx) (.var 0) (.cst (.int 1))) (.cons (.cst (.str [32])) (.nil))) (.cons (.cst (.int 1)) (.nil)) (.nil) false)) (.cst (.bl true)) [2]) (.nil)))) (.seq (.ret (.tup (.cons (.tup (.cons (.pri (.int) (.cons (.bin (.idx) (.bin (.idx) (.var 0) (.cst (.int 0))) (.pri (.neg) (.cons (.cst (.int 1)) (.nil)))) (.nil))) (.cons (.var 1) (.cons (.cal 169 (.cons (.bin (.idx) (.var 0) (.cst (.int 2))) (.nil))) (.nil))))) (.cons (.pri (.tuple) (.cons (.com (.cal 169 (.cons (.var 3) (.nil))) [3] (.iseq (.slc (.var 0) (.cons (.cst (.int 3)) (.nil)) (.nil) false)) (.cst (.bl true)) [3]) (.nil))) (.nil))))) (.nop))) }
def f171 : FI := { ar := 1, nl := 2, body := .seq (.ifs (.not (.pri (.isi (.str)) (.cons (.var 0) (.nil)))) (.seq (.rse 8) (.nop)) (.nop)) (.seq (.asg 1 (.cal 170 (.cons (.mth (.split) (.var 0) (.cons (.cst (.str [10])) (.nil))) (.nil)))) (.seq (.ifs (.or (.bin (.is) (.var 1) (.cst (.non))) (.or (.not (.cal 2 (.cons (.bin (.idx) (.var 1) (.cst (.int 0))) (.nil)))) (.not (.cal 32 (.cons (.bin (.idx) (.var 1) (.cst (.int 0))) (.cons (.bin (.idx) (.var 1) (.cst (.int 1))) (.cons (.cst (.int 0)) (.cons (.cst (.int 8)) (.nil))))))))) (.seq (.rse 8) (.nop)) (.nop)) (.seq (.ifs (.bin (.ne) (.cal 168 (.cons (.bin (.idx) (.var 1) (.cst (.int 0))) (.cons (.bin (.idx) (.var 1) (.cst (.int 1))) (.nil)))) (.var 0)) (.seq (.rse 8) (.nop)) (.nop)) (.seq (.ret (.var 1)) (.nop))))) }
def f172 : FI := { ar := 3, nl := 3, body := .seq (.ifs (.not (.cal 0 (.cons (.var 0) (.cons (.var 1) (.cons (.var 2) (.nil)))))) (.seq (.rse 7) (.nop)) (.nop)) (.nop) }
def f173 : FI := { ar := 1, nl := 3, body := .seq (.asg 1 (.com (.var 2) [2] (.iseq (.var 0)) (.pri (.isi (.tuple)) (.cons (.var 2) (.nil))) [2])) (.seq (.ifs (.bin (.ne) (.com (.var 2) [2] (.iseq (.var 0)) (.bin (.is) (.var 2) (.cst (.bl false))) [2]) (.lst (.nil))) (.seq (.ret (.cst (.bl false))) (.nop)) (.nop)) (.seq (.ret (.not (.cal 174 (.cons (.var 1) (.nil))))) (.nop))) }
def f174 : FI := { ar := 1, nl := 4, body := .seq (.asg 1 (.pri (.neg) (.cons (.cst (.int 1)) (.nil)))) (.seq (.whl (.bin (.ne) (.pri (.len) (.cons (.var 0) (.nil))) (.var 1)) (.seq (.asg 1 (.pri (.len) (.cons (.var 0) (.nil)))) (.seq (.asg 2 (.com (.bin (.idx) (.var 3) (.cst (.int 0))) [3] (.iseq (.var 0)) (.cst (.bl true)) [3])) (.seq (.asg 0 (.com (.var 3) [3] (.iseq (.var 0)) (.bin (.inn) (.bin (.idx) (.var 3) (.cst (.int 1))) (.var 2)) [3])) (.nop))))) (.seq (.ret (.bin (.ne) (.var 0) (.lst (.nil)))) (.nop))) }
def f180 : FI := { ar := 1, nl := 1, body := .seq (.whl (.cst (.bl true)) (.seq (.nop) (.nop))) (.nop) }
def f181 : FI := { ar := 1, nl := 7, body := .seq (.asg 1 (.lst (.cons (.tup (.nil)) (.nil)))) (.seq (.asg 2 (.pri (.sorted) (.cons (.cal 21 (.cons (.var 0) (.nil))) (.nil)))) (.seq (.for [3] (.irng (.pri (.len) (.cons (.var 2) (.nil)))) (.seq (.asg 4 (.lst (.nil))) (.seq (.for [5] (.iseq (.var 1)) (.seq (.asg 4 (.bin (.add) (.var 4) (.com (.bin (.add) (.var 5) (.tup (.cons (.var 6) (.nil)))) [6] (.iseq (.var 2)) (.bin (.notin) (.var 6) (.var 5)) [6]))) (.nop))) (.seq (.asg 1 (.var 4)) (.nop))))) (.seq (.ret (.var 1)) (.nop)))) }
def f182 : FI := { ar := 2, nl := 5, body := .seq (.asg 2 (.mut (.lst (.nil)))) (.seq (.for [3] (.iseq (.cal 181 (.cons (.var 0) (.nil)))) (.seq (.ifs (.bin (.eq) (.com (.var 4) [4] (.iseq (.var 1)) (.not (.cal 85 (.cons (.var 0) (.cons (.var 3) (.cons (.var 4) (.nil)))))) [4]) (.lst (.nil))) (.seq (.exp (.mth (.append) (.var 2) (.cons (.var 3) (.nil)))) (.nop)) (.nop)) (.nop))) (.seq (.ret (.var 2)) (.nop))) }
def f183 : FI := { ar := 3, nl := 5, body := .seq (.asg 3 (.cst (.str []))) (.seq (.for [4] (.irng (.cal 14 (.cons (.var 0) (.cons (.bin (.add) (.var 2) (.cst (.int 1))) (.nil))))) (.seq (.asg 3 (.bin (.add) (.var 3) (.cal 15 (.cons (.var 0) (.cons (.pri (.list) (.cons (.slc (.cst (.str [97, 98, 99, 100, 101])) (.nil) (.cons (.bin (.idx) (.var 1) (.cst (.int 0))) (.nil)) false) (.nil))) (.nil)))))) (.nop))) (.seq (.ret (.var 3)) (.nop))) }
def f184 : FI := { ar := 3, nl := 7, body := .seq (.asg 3 (.tup (.nil))) (.seq (.for [4] (.irng (.var 2)) (.seq (.asg 5 (.cal 183 (.cons (.var 0) (.cons (.var 1) (.cons (.cst (.int 4)) (.nil)))))) (.seq (.ifs (.and (.bin (.ne) (.var 3) (.tup (.nil))) (.bin (.eq) (.cal 14 (.cons (.var 0) (.cons (.cst (.int 2)) (.nil)))) (.cst (.int 0)))) (.seq (.asg 6 (.cal 15 (.cons (.var 0) (.cons (.pri (.list) (.cons (.var 3) (.nil))) (.nil))))) (.seq (.asg 5 (.bin (.add) (.slc (.var 6) (.nil) (.cons (.cal 14 (.cons (.var 0) (.cons (.bin (.add) (.pri (.len) (.cons (.var 6) (.nil))) (.cst (.int 1))) (.nil)))) (.nil)) false) (.cal 183 (.cons (.var 0) (.cons (.var 1) (.cons (.cst (.int 2)) (.nil))))))) (.nop))) (.nop)) (.seq (.asg 3 (.bin (.add) (.var 3) (.tup (.cons (.slc (.var 5) (.nil) (.cons (.cst (.int 8)) (.nil)) false) (.nil))))) (.nop))))) (.seq (.ret (.var 3)) (.nop))) }
def f185 : FI := { ar := 2, nl := 3, body := .seq (.asg 2 (.cal 15 (.cons (.var 0) (.cons (.lst (.cons (.cst (.str [97, 104, 101, 97, 100])) (.cons (.cst (.str [97, 104, 101, 97, 100])) (.cons (.cst (.str [98, 101, 116, 119, 101, 101, 110])) (.cons (.cst (.str [115, 111, 114, 116, 101, 100])) (.nil)))))) (.nil))))) (.seq (.ifs (.bin (.eq) (.var 2) (.cst (.str [115, 111, 114, 116, 101, 100]))) (.seq (.ret (.tup (.cons (.var 2) (.cons (.cal 184 (.cons (.var 0) (.cons (.var 1) (.cons (.bin (.add) (.cst (.int 2)) (.cal 14 (.cons (.var 0) (.cons (.cst (.int 3)) (.nil))))) (.nil))))) (.nil))))) (.nop)) (.nop)) (.seq (.ret (.bin (.add) (.tup (.cons (.var 2) (.nil))) (.cal 184 (.cons (.var 0) (.cons (.var 1) (.cons (.ite (.bin (.eq) (.var 2) (.cst (.str [97, 104, 101, 97, 100]))) (.cst (.int 2)) (.cst (.int 3))) (.nil))))))) (.nop))) }
def f189 : FI := { ar := 5, nl := 7, body := .seq (.asg 5 (.pri (.len) (.cons (.cal 182 (.cons (.var 0) (.cons (.var 3) (.nil)))) (.nil)))) (.seq (.asg 6 (.ite (.bin (.eq) (.var 2) (.cst (.str [108, 101, 97, 114, 110]))) (.var 5) (.cst (.non)))) (.seq (.ifs (.or (.bin (.eq) (.var 5) (.cst (.int 0))) (.bin (.gt) (.pri (.len) (.cons (.var 3) (.nil))) (.cst (.int 5)))) (.seq (.ret (.ite (.bin (.eq) (.var 4) (.ite (.bin (.eq) (.var 5) (.cst (.int 0))) (.cst (.str [105, 109, 112, 111, 115, 115, 105, 98, 108, 101])) (.cst (.str [109, 97, 110, 121, 53])))) (.var 1) (.cst (.non)))) (.nop)) (.nop)) (.seq (.ifs (.bin (.eq) (.var 2) (.cst (.str [102, 111, 114, 103, 101, 116]))) (.seq (.ret (.bin (.add) (.var 1) (.lst (.cons (.tup (.cons (.var 3) (.cons (.bin (.add) (.bin (.idx) (.bin (.idx) (.var 1) (.pri (.neg) (.cons (.cst (.int 1)) (.nil)))) (.cst (.int 1))) (.tup (.cons (.bin (.add) (.cst (.str [102, 111, 114, 103, 101, 116, 32])) (.pri (.str) (.cons (.var 5) (.nil)))) (.nil)))) (.nil)))) (.nil))))) (.nop)) (.nop)) (.seq (.ret (.ite (.bin (.eq) (.var 4) (.var 6)) (.bin (.add) (.var 1) (.lst (.cons (.tup (.cons (.var 3) (.cons (.bin (.add) (.bin (.idx) (.bin (.idx) (.var 1) (.pri (.neg) (.cons (.cst (.int 1)) (.nil)))) (.cst (.int 1))) (.tup (.cons (.bin (.add) (.bin (.add) (.var 2) (.cst (.str [32]))) (.pri (.str) (.cons (.var 5) (.nil)))) (.nil)))) (.nil)))) (.nil)))) (.cst (.non)))) (.nop))))) }
def f200 : FI := { ar := 2, nl := 2, body := .seq (.exp (.cal 3 (.cons (.var 0) (.nil)))) (.seq (.exp (.cal 56 (.cons (.var 0) (.cons (.var 1) (.nil))))) (.seq (.ret (.cal 168 (.cons (.var 0) (.cons (.var 1) (.nil))))) (.nop))) }
def f201 : FI := { ar := 2, nl := 5, body := .seq (.asg 2 (.mut (.lst (.cons (.bin (.add) (.cst (.str [108, 101, 116, 116, 101, 114, 115, 32])) (.pri (.str) (.cons (.bin (.idx) (.var 0) (.cst (.int 0))) (.nil)))) (.cons (.mth (.join) (.cst (.str [32])) (.cons (.bin (.add) (.lst (.cons (.cst (.str [112, 97, 105, 114, 115])) (.nil))) (.pri (.list) (.cons (.bin (.idx) (.var 0) (.cst (.int 1))) (.nil)))) (.nil))) (.nil)))))) (.seq (.for [3, 4] (.iseq (.bin (.add) (.lst (.cons (.tup (.cons (.cst (.str [108, 97, 115, 116])) (.cons (.bin (.idx) (.var 0) (.cst (.int 2))) (.nil)))) (.nil))) (.com (.tup (.cons (.cst (.str [119, 111, 114, 100])) (.cons (.var 4) (.nil)))) [4] (.iseq (.var 1)) (.cst (.bl true)) [4]))) (.seq (.exp (.mth (.append) (.var 2) (.cons (.bin (.add) (.var 3) (.ite (.bin (.ne) (.var 4) (.cst (.str []))) (.bin (.add) (.cst (.str [32])) (.var 4)) (.cst (.str [])))) (.nil)))) (.nop))) (.seq (.ret (.var 2)) (.nop))) }
def f202 : FI := { ar := 1, nl := 7, body := .seq (.for [1] (.irng (.pri (.max2) (.cons (.cst (.int 6)) (.cons (.pri (.min2) (.cons (.cst (.int 15)) (.cons (.pri (.len) (.cons (.var 0) (.nil))) (.nil)))) (.nil))))) (.seq (.asg 4 (.cal 13 (.cons (.var 0) (.cons (.var 1) (.nil))))) (.seq (.asg 5 (.cal 24 (.cons (.var 4) (.nil)))) (.seq (.asg 6 (.cal 48 (.cons (.var 4) (.cons (.var 5) (.cons (.cal 14 (.cons (.var 4) (.cons (.cst (.int 9)) (.nil)))) (.nil)))))) (.seq (.asg 3 (.mth (.join) (.cst (.str [10])) (.cons (.cal 201 (.cons (.var 5) (.cons (.var 6) (.nil)))) (.nil)))) (.seq (.ifs (.or (.bin (.ne) (.cal 200 (.cons (.var 5) (.cons (.var 6) (.nil)))) (.var 3)) (.bin (.ne) (.cal 171 (.cons (.var 3) (.nil))) (.tup (.cons (.var 5) (.cons (.var 6) (.nil)))))) (.seq (.ret (.cst (.bl false))) (.nop)) (.nop)) (.seq (.ifs (.bin (.ne) (.lam (.cal 200 (.cons (.var 5) (.cons (.bin (.add) (.var 6) (.tup (.cons (.cst (.str [122])) (.nil)))) (.nil))))) (.cst (.str [119, 111, 114, 100, 115, 32, 118, 97, 108, 117, 101]))) (.seq (.ret (.cst (.bl false))) (.nop)) (.nop)) (.nop)))))))) (.seq (.asg 2 (.tup (.cons (.cst (.int 4)) (.cons (.tup (.cons (.cst (.str [97, 100])) (.cons (.cst (.str [100, 97])) (.nil)))) (.cons (.cst (.str [100])) (.nil)))))) (.seq (.asg 3 (.cst (.str [108, 101, 116, 116, 101, 114, 115, 32, 52, 10, 112, 97, 105, 114, 115, 32, 97, 100, 32, 100, 97, 10, 108, 97, 115, 116, 32, 100, 10, 119, 111, 114, 100, 32, 97, 100, 100, 10, 119, 111, 114, 100, 10, 119, 111, 114, 100, 32, 100, 100, 100, 100, 97, 97, 97, 97]))) (.seq (.ifs (.or (.bin (.ne) (.cal 200 (.cons (.var 2) (.cons (.tup (.cons (.cst (.str [97, 100, 100])) (.cons (.cst (.str [])) (.cons (.cst (.str [100, 100, 100, 100, 97, 97, 97, 97])) (.nil))))) (.nil)))) (.var 3)) (.bin (.ne) (.cal 171 (.cons (.var 3) (.nil))) (.tup (.cons (.var 2) (.cons (.tup (.cons (.cst (.str [97, 100, 100])) (.cons (.cst (.str [])) (.cons (.cst (.str [100, 100, 100, 100, 97, 97, 97, 97])) (.nil))))) (.nil)))))) (.seq (.ret (.cst (.bl false))) (.nop)) (.nop)) (.seq (.ret (.bin (.eq) (.cal 200 (.cons (.tup (.cons (.cst (.int 2)) (.cons (.tup (.nil)) (.cons (.cst (.str [])) (.nil))))) (.cons (.tup (.nil)) (.nil)))) (.cst (.str [108, 101, 116, 116, 101, 114, 115, 32, 50, 10, 112, 97, 105, 114, 115, 10, 108, 97, 115, 116])))) (.nop))))) }
def f204 : FI := { ar := 2, nl := 8, body := .seq (.par [5, 6] (.cons (.cal 14 (.cons (.var 0) (.cons (.bin (.add) (.pri (.len) (.cons (.var 1) (.nil))) (.cst (.int 1))) (.nil)))) (.cons (.cal 14 (.cons (.var 0) (.cons (.cst (.int 6)) (.nil)))) (.nil)))) (.seq (.ifs (.bin (.lt) (.var 6) (.cst (.int 2))) (.seq (.asg 7 (.lst (.cons (.cst (.str [])) (.cons (.cst (.str [32])) (.cons (.cst (.str [97])) (.cons (.cst (.str [98])) (.cons (.cst (.str [101])) (.cons (.cst (.str [50])) (.cons (.cst (.str [10])) (.cons (.cst (.str [10, 119, 111, 114, 100, 32, 97])) (.cons (.cst (.str [32, 97, 98])) (.cons (.cst (.str [119, 111, 114, 100])) (.cons (.cst (.str [10, 108, 97, 115, 116])) (.nil)))))))))))))) (.seq (.ret (.bin (.add) (.bin (.add) (.slc (.var 1) (.nil) (.cons (.var 5) (.nil)) false) (.cal 15 (.cons (.var 0) (.cons (.var 7) (.nil))))) (.slc (.var 1) (.cons (.bin (.add) (.var 5) (.var 6)) (.nil)) (.nil) false))) (.nop))) (.nop)) (.seq (.asg 2 (.mth (.split) (.var 1) (.cons (.cst (.str [10])) (.nil)))) (.seq (.asg 3 (.cal 14 (.cons (.var 0) (.cons (.pri (.len) (.cons (.var 2) (.nil))) (.nil))))) (.seq (.ifs (.bin (.eq) (.var 6) (.cst (.int 2))) (.seq (.ret (.mth (.join) (.cst (.str [10])) (.cons (.bin (.add) (.slc (.var 2) (.nil) (.cons (.var 3) (.nil)) false) (.slc (.var 2) (.cons (.bin (.add) (.var 3) (.cst (.int 1))) (.nil)) (.nil) false)) (.nil)))) (.nop)) (.nop)) (.seq (.ifs (.bin (.eq) (.var 6) (.cst (.int 3))) (.seq (.ret (.mth (.join) (.cst (.str [10])) (.cons (.bin (.add) (.slc (.var 2) (.nil) (.cons (.bin (.add) (.var 3) (.cst (.int 1))) (.nil)) false) (.slc (.var 2) (.cons (.var 3) (.nil)) (.nil) false)) (.nil)))) (.nop)) (.nop)) (.seq (.ifs (.bin (.eq) (.var 6) (.cst (.int 4))) (.seq (.ret (.mth (.join) (.cst (.str [10])) (.cons (.bin (.add) (.slc (.var 2) (.cons (.var 3) (.nil)) (.nil) false) (.slc (.var 2) (.nil) (.cons (.var 3) (.nil)) false)) (.nil)))) (.nop)) (.nop)) (.seq (.asg 4 (.lst (.cons (.cst (.str [108, 101, 116, 116, 101, 114, 115, 32, 50])) (.cons (.cst (.str [108, 101, 116, 116, 101, 114, 115, 32, 53])) (.cons (.cst (.str [112, 97, 105, 114, 115])) (.cons (.cst (.str [112, 97, 105, 114, 115, 32, 97, 98])) (.cons (.cst (.str [108, 97, 115, 116])) (.cons (.cst (.str [108, 97, 115, 116, 32, 98])) (.cons (.cst (.str [119, 111, 114, 100])) (.cons (.cst (.str [119, 111, 114, 100, 32, 98])) (.cons (.cst (.str [119, 111, 114, 100, 32, 32, 97])) (.cons (.cst (.str [108, 97, 115, 116, 32])) (.nil))))))))))))) (.seq (.ret (.mth (.join) (.cst (.str [10])) (.cons (.bin (.add) (.bin (.add) (.slc (.var 2) (.nil) (.cons (.var 3) (.nil)) false) (.lst (.cons (.cal 15 (.cons (.var 0) (.cons (.var 4) (.nil)))) (.nil)))) (.slc (.var 2) (.cons (.bin (.add) (.var 3) (.cst (.int 1))) (.nil)) (.nil) false)) (.nil)))) (.nop))))))))) }
def f205 : FI := { ar := 1, nl := 7, body := .seq (.ifs (.or (.not (.pri (.isi (.str)) (.cons (.var 0) (.nil)))) (.or (.bin (.ne) (.slc (.var 0) (.nil) (.cons (.cst (.int 8)) (.nil)) false) (.cst (.str [108, 101, 116, 116, 101, 114, 115, 32]))) (.bin (.notin) (.slc (.var 0) (.cons (.cst (.int 8)) (.nil)) (.cons (.cst (.int 9)) (.nil)) false) (.lst (.cons (.cst (.str [50])) (.cons (.cst (.str [51])) (.cons (.cst (.str [52])) (.cons (.cst (.str [53])) (.nil))))))))) (.seq (.ret (.cst (.non))) (.nop)) (.nop)) (.seq (.asg 1 (.mth (.split) (.var 0) (.cons (.cst (.str [10])) (.nil)))) (.seq (.asg 2 (.com (.mth (.split) (.var 5) (.cons (.cst (.str [32])) (.nil))) [5] (.iseq (.var 1)) (.cst (.bl true)) [5])) (.seq (.ifs (.or (.bin (.lt) (.pri (.len) (.cons (.var 2) (.nil))) (.cst (.int 3))) (.or (.bin (.ne) (.bin (.idx) (.bin (.idx) (.var 2) (.cst (.int 1))) (.cst (.int 0))) (.cst (.str [112, 97, 105, 114, 115]))) (.bin (.ne) (.com (.var 6) [6] (.iseq (.slc (.var 2) (.cons (.cst (.int 2)) (.nil)) (.nil) false)) (.bin (.gt) (.pri (.len) (.cons (.var 6) (.nil))) (.cst (.int 2))) [6]) (.lst (.nil))))) (.seq (.ret (.cst (.non))) (.nop)) (.nop)) (.seq (.asg 3 (.tup (.cons (.pri (.int) (.cons (.bin (.idx) (.var 0) (.cst (.int 8))) (.nil))) (.cons (.pri (.tuple) (.cons (.slc (.bin (.idx) (.var 2) (.cst (.int 1))) (.cons (.cst (.int 1)) (.nil)) (.nil) false) (.nil))) (.cons (.mth (.join) (.cst (.str [])) (.cons (.slc (.bin (.idx) (.var 2) (.cst (.int 2))) (.cons (.cst (.int 1)) (.nil)) (.nil) false) (.nil))) (.nil)))))) (.seq (.asg 4 (.pri (.tuple) (.cons (.com (.mth (.join) (.cst (.str [])) (.cons (.slc (.var 6) (.cons (.cst (.int 1)) (.nil)) (.nil) false) (.nil))) [6] (.iseq (.slc (.var 2) (.cons (.cst (.int 3)) (.nil)) (.nil) false)) (.cst (.bl true)) [6]) (.nil)))) (.seq (.ifs (.or (.not (.cal 19 (.cons (.var 3) (.nil)))) (.not (.cal 43 (.cons (.var 3) (.cons (.var 4) (.cons (.cst (.int 0)) (.cons (.cst (.int 8)) (.nil)))))))) (.seq (.ret (.cst (.non))) (.nop)) (.nop)) (.seq (.ret (.ite (.bin (.eq) (.cal 201 (.cons (.var 3) (.cons (.var 4) (.nil)))) (.var 1)) (.tup (.cons (.var 3) (.cons (.var 4) (.nil)))) (.cst (.non)))) (.nop)))))))) }
def f206 : FI := { ar := 1, nl := 10, body := .seq (.for [1] (.irng (.pri (.max2) (.cons (.cst (.int 6)) (.cons (.pri (.min2) (.cons (.cst (.int 14)) (.cons (.pri (.len) (.cons (.var 0) (.nil))) (.nil)))) (.nil))))) (.seq (.asg 3 (.cal 13 (.cons (.var 0) (.cons (.var 1) (.nil))))) (.seq (.asg 4 (.cal 24 (.cons (.var 3) (.nil)))) (.seq (.asg 5 (.mth (.join) (.cst (.str [10])) (.cons (.cal 201 (.cons (.var 4) (.cons (.cal 48 (.cons (.var 3) (.cons (.var 4) (.cons (.cst (.int 4)) (.nil))))) (.nil)))) (.nil)))) (.seq (.asg 6 (.lst (.cons (.bin (.add) (.var 5) (.cst (.str [10]))) (.cons (.bin (.add) (.cst (.str [32])) (.var 5)) (.cons (.cal 28 (.cons (.var 3) (.cons (.cst (.int 2)) (.nil)))) (.cons (.lst (.cons (.var 5) (.nil))) (.cons (.mth (.upper) (.var 5) (.nil)) (.cons (.bin (.add) (.var 5) (.cst (.str [32]))) (.nil))))))))) (.seq (.ifs (.bin (.ne) (.com (.var 9) [9] (.iseq (.var 6)) (.bin (.isnot) (.cal 203 (.cons (.var 9) (.nil))) (.cst (.non))) [9]) (.lst (.nil))) (.seq (.ret (.cst (.bl false))) (.nop)) (.nop)) (.seq (.for [7] (.irng (.cst (.int 7))) (.seq (.asg 5 (.cal 204 (.cons (.var 3) (.cons (.var 5) (.nil))))) (.seq (.ifs (.bin (.ne) (.cal 203 (.cons (.var 5) (.nil))) (.cal 205 (.cons (.var 5) (.nil)))) (.seq (.ret (.cst (.bl false))) (.nop)) (.nop)) (.nop)))) (.nop)))))))) (.seq (.asg 2 (.mut (.lst (.cons (.cst (.str [])) (.cons (.cst (.str [108, 101, 116, 116, 101, 114, 115, 32, 51])) (.cons (.cst (.str [108, 101, 116, 116, 101, 114, 115, 32, 51, 10, 112, 97, 105, 114, 115])) (.cons (.cst (.str [108, 101, 116, 116, 101, 114, 115, 32, 49, 10, 112, 97, 105, 114, 115, 10, 108, 97, 115, 116])) (.cons (.cst (.str [108, 101, 116, 116, 101, 114, 115, 32, 54, 10, 112, 97, 105, 114, 115, 10, 108, 97, 115, 116])) (.nil))))))))) (.seq (.asg 2 (.bin (.add) (.var 2) (.lst (.cons (.cst (.str [108, 101, 116, 116, 101, 114, 115, 32, 51, 10, 112, 97, 105, 114, 115, 32, 10, 108, 97, 115, 116])) (.cons (.cst (.str [108, 101, 116, 116, 101, 114, 115, 32, 51, 10, 112, 97, 105, 114, 115, 10, 108, 97, 115, 116, 32])) (.cons (.cst (.str [108, 101, 116, 116, 101, 114, 115, 32, 51, 10, 112, 97, 105, 114, 115, 32, 97, 98, 32, 32, 98, 97, 10, 108, 97, 115, 116])) (.nil))))))) (.seq (.asg 2 (.bin (.add) (.var 2) (.lst (.cons (.cst (.str [108, 101, 116, 116, 101, 114, 115, 32, 51, 10, 112, 97, 105, 114, 115, 32, 98, 97, 32, 97, 98, 10, 108, 97, 115, 116])) (.cons (.cst (.str [108, 101, 116, 116, 101, 114, 115, 32, 51, 10, 112, 97, 105, 114, 115, 10, 108, 97, 115, 116, 32, 100])) (.cons (.cst (.str [108, 101, 116, 116, 101, 114, 115, 32, 51, 10, 112, 97, 105, 114, 115, 10, 108, 97, 115, 116, 10, 119, 111, 114, 100, 32, 100])) (.nil))))))) (.seq (.asg 2 (.bin (.add) (.var 2) (.lst (.cons (.cst (.str [108, 101, 116, 116, 101, 114, 115, 32, 51, 10, 112, 97, 105, 114, 115, 10, 108, 97, 115, 116, 10, 119, 111, 114, 100, 32])) (.cons (.cst (.str [108, 101, 116, 116, 101, 114, 115, 32, 51, 10, 112, 97, 105, 114, 115, 10, 108, 97, 115, 116, 10, 119, 111, 114, 100, 115, 32, 97])) (.cons (.cst (.str [108, 101, 116, 116, 101, 114, 115, 32, 51, 10, 108, 97, 115, 116, 10, 112, 97, 105, 114, 115])) (.nil))))))) (.seq (.asg 2 (.bin (.add) (.var 2) (.lst (.cons (.cst (.str [108, 101, 116, 116, 101, 114, 115, 32, 48, 51, 10, 112, 97, 105, 114, 115, 10, 108, 97, 115, 116])) (.cons (.bin (.add) (.cst (.str [108, 101, 116, 116, 101, 114, 115, 32, 51, 10, 112, 97, 105, 114, 115, 10, 108, 97, 115, 116])) (.bin (.mul) (.cst (.str [10, 119, 111, 114, 100])) (.cst (.int 9)))) (.nil)))))) (.seq (.exp (.mth (.append) (.var 2) (.cons (.cst (.str [108, 101, 116, 116, 101, 114, 115, 32, 51, 10, 112, 97, 105, 114, 115, 10, 108, 97, 115, 116, 10, 119, 111, 114, 100, 32, 97, 32, 98])) (.nil)))) (.seq (.ifs (.bin (.ne) (.com (.var 8) [8] (.iseq (.var 2)) (.bin (.isnot) (.cal 203 (.cons (.var 8) (.nil))) (.cst (.non))) [8]) (.lst (.nil))) (.seq (.ret (.cst (.bl false))) (.nop)) (.nop)) (.seq (.ret (.bin (.eq) (.cal 203 (.cons (.bin (.add) (.cst (.str [108, 101, 116, 116, 101, 114, 115, 32, 51, 10, 112, 97, 105, 114, 115, 10, 108, 97, 115, 116])) (.bin (.mul) (.cst (.str [10, 119, 111, 114, 100])) (.cst (.int 8)))) (.nil))) (.tup (.cons (.tup (.cons (.cst (.int 3)) (.cons (.tup (.nil)) (.cons (.cst (.str [])) (.nil))))) (.cons (.bin (.mul) (.tup (.cons (.cst (.str [])) (.nil))) (.cst (.int 8))) (.nil)))))) (.nop))))))))) }
def f207 : FI := { ar := 4, nl := 5, body := .seq (.ifs (.or (.not (.pri (.isi (.tuple)) (.cons (.var 1) (.nil)))) (.or (.bin (.lt) (.pri (.len) (.cons (.var 1) (.nil))) (.var 2)) (.bin (.gt) (.pri (.len) (.cons (.var 1) (.nil))) (.var 3)))) (.seq (.ret (.cst (.bl false))) (.nop)) (.nop)) (.seq (.ret (.bin (.eq) (.com (.var 4) [4] (.iseq (.var 1)) (.not (.cal 20 (.cons (.var 0) (.cons (.var 4) (.nil))))) [4]) (.lst (.nil)))) (.nop)) }
def f208 : FI := { ar := 2, nl := 2, body := .seq (.ifs (.or (.not (.pri (.isi (.tuple)) (.cons (.var 1) (.nil)))) (.or (.bin (.eq) (.var 1) (.tup (.nil))) (.not (.pri (.isi (.str)) (.cons (.bin (.idx) (.var 1) (.cst (.int 0))) (.nil)))))) (.seq (.ret (.cst (.bl false))) (.nop)) (.nop)) (.seq (.ifs (.bin (.eq) (.bin (.idx) (.var 1) (.cst (.int 0))) (.cst (.str [115, 111, 114, 116, 101, 100]))) (.seq (.ret (.and (.bin (.eq) (.pri (.len) (.cons (.var 1) (.nil))) (.cst (.int 2))) (.cal 207 (.cons (.var 0) (.cons (.bin (.idx) (.var 1) (.cst (.int 1))) (.cons (.cst (.int 2)) (.cons (.cst (.int 6)) (.nil)))))))) (.nop)) (.nop)) (.seq (.ifs (.bin (.eq) (.bin (.idx) (.var 1) (.cst (.int 0))) (.cst (.str [97, 104, 101, 97, 100]))) (.seq (.ret (.cal 207 (.cons (.var 0) (.cons (.slc (.var 1) (.cons (.cst (.int 1)) (.nil)) (.nil) false) (.cons (.cst (.int 2)) (.cons (.cst (.int 2)) (.nil))))))) (.nop)) (.nop)) (.seq (.ret (.and (.bin (.eq) (.bin (.idx) (.var 1) (.cst (.int 0))) (.cst (.str [98, 101, 116, 119, 101, 101, 110]))) (.cal 207 (.cons (.var 0) (.cons (.slc (.var 1) (.cons (.cst (.int 1)) (.nil)) (.nil) false) (.cons (.cst (.int 3)) (.cons (.cst (.int 3)) (.nil)))))))) (.nop)))) }
def f209 : FI := { ar := 2, nl := 3, body := .seq (.ifs (.or (.not (.pri (.isi (.tuple)) (.cons (.var 1) (.nil)))) (.bin (.gt) (.pri (.len) (.cons (.var 1) (.nil))) (.cst (.int 5)))) (.seq (.ret (.cst (.bl false))) (.nop)) (.nop)) (.seq (.ret (.bin (.eq) (.com (.var 2) [2] (.iseq (.var 1)) (.not (.cal 208 (.cons (.var 0) (.cons (.var 2) (.nil))))) [2]) (.lst (.nil)))) (.nop)) }
def f217 : FI := { ar := 0, nl := 4, body := .seq (.unp [0, 1] (.tup (.cons (.tup (.cons (.cst (.int 4)) (.cons (.tup (.nil)) (.cons (.cst (.str [])) (.nil))))) (.cons (.tup (.cons (.cst (.str [100, 97])) (.cons (.cst (.str [100, 98])) (.cons (.cst (.str [97, 99])) (.cons (.cst (.str [97, 98])) (.cons (.cst (.str [99])) (.nil))))))) (.nil))))) (.seq (.par [2, 3] (.cons (.tup (.cons (.tup (.cons (.cst (.str [115, 111, 114, 116, 101, 100])) (.cons (.var 1) (.nil)))) (.nil))) (.cons (.mut (.lst (.nil))) (.nil)))) (.seq (.exp (.mth (.append) (.var 3) (.cons (.and (.bin (.eq) (.cal 82 (.cons (.var 0) (.cons (.var 2) (.nil)))) (.cst (.int 1))) (.bin (.isnot) (.cal 83 (.cons (.var 0) (.cons (.var 2) (.nil)))) (.cst (.non)))) (.nil)))) (.seq (.exp (.mth (.append) (.var 3) (.cons (.and (.bin (.is) (.cal 84 (.cons (.var 0) (.cons (.var 2) (.cons (.tup (.cons (.cst (.str [97, 104, 101, 97, 100])) (.cons (.cst (.str [100])) (.cons (.cst (.str [98])) (.nil))))) (.nil))))) (.cst (.bl true))) (.bin (.is) (.cal 99 (.cons (.var 0) (.cons (.var 1) (.nil)))) (.cst (.non)))) (.nil)))) (.seq (.exp (.mth (.append) (.var 3) (.cons (.bin (.eq) (.cal 83 (.cons (.var 0) (.cons (.tup (.cons (.tup (.cons (.cst (.str [115, 111, 114, 116, 101, 100])) (.cons (.tup (.cons (.cst (.str [100, 97])) (.cons (.cst (.str [97, 99])) (.cons (.cst (.str [99])) (.cons (.cst (.str [98, 98])) (.nil)))))) (.nil)))) (.nil))) (.nil)))) (.tup (.cons (.cst (.str [100])) (.cons (.cst (.str [97])) (.cons (.cst (.str [99])) (.cons (.cst (.str [98])) (.nil))))))) (.nil)))) (.seq (.exp (.mth (.append) (.var 3) (.cons (.bin (.eq) (.pri (.sorted) (.cons (.cal 99 (.cons (.var 0) (.cons (.bin (.add) (.var 1) (.tup (.cons (.cst (.str [100])) (.nil)))) (.nil)))) (.nil))) (.lst (.cons (.cst (.int 1)) (.cons (.cst (.int 3)) (.cons (.cst (.int 4)) (.nil)))))) (.nil)))) (.seq (.exp (.mth (.append) (.var 3) (.cons (.bin (.eq) (.cal 82 (.cons (.var 0) (.cons (.tup (.cons (.tup (.cons (.cst (.str [98, 101, 116, 119, 101, 101, 110])) (.cons (.cst (.str [97])) (.cons (.cst (.str [98])) (.cons (.cst (.str [99])) (.nil)))))) (.cons (.tup (.cons (.cst (.str [97, 104, 101, 97, 100])) (.cons (.cst (.str [100])) (.cons (.cst (.str [98])) (.nil))))) (.nil)))) (.nil)))) (.cst (.int 4))) (.nil)))) (.seq (.exp (.mth (.append) (.var 3) (.cons (.bin (.eq) (.cal 92 (.cons (.var 0) (.cons (.tup (.cons (.tup (.cons (.cst (.str [115, 111, 114, 116, 101, 100])) (.cons (.tup (.cons (.cst (.str [97])) (.cons (.cst (.str [98])) (.cons (.cst (.str [99])) (.nil))))) (.nil)))) (.nil))) (.cons (.tup (.cons (.cst (.str [97])) (.cons (.cst (.str [98])) (.cons (.cst (.str [99])) (.nil))))) (.cons (.cst (.str [100])) (.nil)))))) (.lst (.cons (.cst (.int 0)) (.cons (.cst (.int 1)) (.cons (.cst (.int 2)) (.cons (.cst (.int 3)) (.nil))))))) (.nil)))) (.seq (.exp (.mth (.append) (.var 3) (.cons (.bin (.eq) (.cal 148 (.cons (.var 0) (.cons (.tup (.cons (.tup (.cons (.cst (.str [115, 111, 114, 116, 101, 100])) (.cons (.tup (.cons (.cst (.str [97])) (.cons (.cst (.str [98])) (.cons (.cst (.str [99])) (.nil))))) (.nil)))) (.nil))) (.cons (.tup (.cons (.cst (.str [98, 101, 116, 119, 101, 101, 110])) (.cons (.cst (.str [97])) (.cons (.cst (.str [100])) (.cons (.cst (.str [99])) (.nil)))))) (.nil))))) (.cst (.int 2))) (.nil)))) (.seq (.exp (.mth (.append) (.var 3) (.cons (.bin (.eq) (.cal 148 (.cons (.var 0) (.cons (.tup (.cons (.tup (.cons (.cst (.str [115, 111, 114, 116, 101, 100])) (.cons (.tup (.cons (.cst (.str [97])) (.cons (.cst (.str [98])) (.cons (.cst (.str [99])) (.nil))))) (.nil)))) (.nil))) (.cons (.tup (.cons (.cst (.str [97, 104, 101, 97, 100])) (.cons (.cst (.str [100])) (.cons (.cst (.str [97])) (.nil))))) (.nil))))) (.cst (.int 1))) (.nil)))) (.seq (.exp (.mth (.append) (.var 3) (.cons (.bin (.eq) (.cal 141 (.cons (.var 0) (.cons (.tup (.cons (.tup (.cons (.cst (.str [115, 111, 114, 116, 101, 100])) (.cons (.tup (.cons (.cst (.str [97])) (.cons (.cst (.str [98])) (.cons (.cst (.str [99])) (.nil))))) (.nil)))) (.nil))) (.nil)))) (.tup (.cons (.cst (.int 2)) (.cons (.tup (.cons (.cst (.str [98])) (.cons (.cst (.str [100])) (.nil)))) (.nil))))) (.nil)))) (.seq (.ret (.var 3)) (.nop)))))))))))) }
def f218 : FI := { ar := 0, nl := 3, body := .seq (.unp [1, 2] (.tup (.cons (.tup (.cons (.cst (.int 2)) (.cons (.tup (.cons (.cst (.str [97, 98])) (.nil))) (.cons (.cst (.str [])) (.nil))))) (.cons (.tup (.cons (.cst (.int 2)) (.cons (.tup (.nil)) (.cons (.cst (.str [97])) (.nil))))) (.nil))))) (.seq (.asg 0 (.mut (.lst (.cons (.bin (.eq) (.cal 82 (.cons (.var 1) (.cons (.tup (.cons (.tup (.cons (.cst (.str [115, 111, 114, 116, 101, 100])) (.cons (.tup (.cons (.cst (.str [97, 98])) (.cons (.cst (.str [97, 97])) (.cons (.cst (.str [98])) (.nil))))) (.nil)))) (.nil))) (.nil)))) (.cst (.int 1))) (.nil))))) (.seq (.exp (.mth (.append) (.var 0) (.cons (.and (.bin (.eq) (.cal 82 (.cons (.var 1) (.cons (.tup (.cons (.tup (.cons (.cst (.str [97, 104, 101, 97, 100])) (.cons (.cst (.str [97, 97, 98])) (.cons (.cst (.str [97, 97])) (.nil))))) (.nil))) (.nil)))) (.cst (.int 3))) (.bin (.eq) (.cal 70 (.cons (.var 1) (.cons (.cst (.str [97, 98, 98])) (.cons (.cst (.str [98])) (.nil))))) (.tup (.cons (.cst (.str [97, 98])) (.cons (.cst (.str [98])) (.nil)))))) (.nil)))) (.seq (.exp (.mth (.append) (.var 0) (.cons (.bin (.eq) (.cal 93 (.cons (.var 2) (.cons (.tup (.nil)) (.cons (.tup (.cons (.cst (.str [97, 98])) (.cons (.cst (.str [98])) (.cons (.cst (.str [98, 97])) (.cons (.cst (.str [98, 98])) (.nil)))))) (.nil))))) (.lst (.cons (.tup (.cons (.cst (.str [97, 98])) (.cons (.cst (.str [98])) (.cons (.cst (.str [98, 97])) (.cons (.cst (.str [98, 98])) (.nil)))))) (.cons (.tup (.cons (.cst (.str [98])) (.cons (.cst (.str [98, 97])) (.cons (.cst (.str [97, 98])) (.cons (.cst (.str [98, 98])) (.nil)))))) (.nil))))) (.nil)))) (.seq (.exp (.mth (.append) (.var 0) (.cons (.and (.bin (.is) (.cal 70 (.cons (.var 2) (.cons (.cst (.str [97, 97, 97, 98])) (.cons (.cst (.str [98, 98])) (.nil))))) (.cst (.bl true))) (.bin (.is) (.cal 84 (.cons (.var 2) (.cons (.tup (.nil)) (.cons (.tup (.cons (.cst (.str [115, 111, 114, 116, 101, 100])) (.cons (.tup (.cons (.cst (.str [97])) (.cons (.cst (.str [97, 97])) (.cons (.cst (.str [98])) (.nil))))) (.nil)))) (.nil))))) (.cst (.bl true)))) (.nil)))) (.seq (.exp (.mth (.append) (.var 0) (.cons (.bin (.eq) (.cal 114 (.cons (.var 2) (.cons (.tup (.cons (.cst (.str [98])) (.cons (.cst (.str [97])) (.nil)))) (.cons (.tup (.cons (.tup (.cons (.cst (.str [104, 97, 108, 118, 101])) (.cons (.cst (.str [97, 98])) (.nil)))) (.nil))) (.cons (.tup (.cons (.cst (.str [98])) (.cons (.cst (.str [98, 97])) (.cons (.cst (.str [98, 98])) (.nil))))) (.nil)))))) (.tup (.cons (.cst (.str [98])) (.cons (.cst (.str [98, 97])) (.cons (.cst (.str [97, 98])) (.cons (.cst (.str [98, 98])) (.nil))))))) (.nil)))) (.seq (.exp (.mth (.append) (.var 0) (.cons (.bin (.eq) (.cal 165 (.cons (.var 1) (.cons (.tup (.cons (.cst (.str [97])) (.cons (.cst (.str [98])) (.cons (.cst (.str [97, 98])) (.nil))))) (.cons (.tup (.cons (.cst (.str [97, 98])) (.cons (.cst (.str [97, 98, 97, 98])) (.nil)))) (.nil))))) (.lst (.cons (.tup (.cons (.cst (.str [97])) (.cons (.cst (.str [97, 98])) (.nil)))) (.cons (.tup (.cons (.cst (.str [97])) (.cons (.cst (.str [98])) (.nil)))) (.cons (.tup (.cons (.cst (.str [98])) (.cons (.cst (.str [97, 98])) (.nil)))) (.nil)))))) (.nil)))) (.seq (.ret (.var 0)) (.nop)))))))) }
def f219 : FI := { ar := 1, nl := 2, body := .seq (.for [1] (.irng (.pri (.max2) (.cons (.cst (.int 1)) (.cons (.pri (.min2) (.cons (.cst (.int 3)) (.cons (.pri (.len) (.cons (.var 0) (.nil))) (.nil)))) (.nil))))) (.seq (.ifs (.or (.bin (.inn) (.cst (.bl false)) (.cal 217 (.nil))) (.bin (.inn) (.cst (.bl false)) (.cal 218 (.nil)))) (.seq (.ret (.cst (.bl false))) (.nop)) (.nop)) (.nop))) (.seq (.ret (.cst (.bl true))) (.nop)) }
def f220 : FI := { ar := 2, nl := 2, body := .seq (.ifs (.bin (.eq) (.var 1) (.cst (.str []))) (.seq (.ret (.lst (.nil))) (.nop)) (.nop)) (.seq (.ifs (.bin (.inn) (.slc (.var 1) (.nil) (.cons (.cst (.int 2)) (.nil)) false) (.bin (.idx) (.var 0) (.cst (.int 1)))) (.seq (.ret (.bin (.add) (.lst (.cons (.slc (.var 1) (.nil) (.cons (.cst (.int 2)) (.nil)) false) (.nil))) (.cal 220 (.cons (.var 0) (.cons (.slc (.var 1) (.cons (.cst (.int 2)) (.nil)) (.nil) false) (.nil)))))) (.nop)) (.nop)) (.seq (.ret (.bin (.add) (.lst (.cons (.bin (.idx) (.var 1) (.cst (.int 0))) (.nil))) (.cal 220 (.cons (.var 0) (.cons (.slc (.var 1) (.cons (.cst (.int 1)) (.nil)) (.nil) false) (.nil)))))) (.nop))) }
def f221 : FI := { ar := 3, nl := 6, body := .seq (.asg 3 (.cal 220 (.cons (.var 0) (.cons (.var 2) (.nil))))) (.seq (.asg 4 (.com (.mth (.index) (.var 1) (.cons (.var 5) (.nil))) [5] (.iseq (.var 3)) (.bin (.ne) (.var 5) (.bin (.idx) (.var 0) (.cst (.int 2)))) [5])) (.seq (.ret (.tup (.cons (.var 4) (.cons (.com (.mth (.index) (.var 1) (.cons (.var 5) (.nil))) [5] (.iseq (.var 3)) (.cst (.bl true)) [5]) (.nil))))) (.nop))) }
def f222 : FI := { ar := 4, nl := 4, body := .seq (.ret (.bin (.lt) (.cal 221 (.cons (.var 0) (.cons (.var 1) (.cons (.var 2) (.nil))))) (.cal 221 (.cons (.var 0) (.cons (.var 1) (.cons (.var 3) (.nil))))))) (.nop) }
def f223 : FI := { ar := 3, nl := 7, body := .seq (.par [3, 4] (.cons (.mut (.pri (.list) (.cons (.var 2) (.nil)))) (.cons (.tup (.nil)) (.nil)))) (.seq (.whl (.bin (.ne) (.var 3) (.lst (.nil))) (.seq (.asg 5 (.bin (.idx) (.var 3) (.cst (.int 0)))) (.seq (.fol [6] (.var 3) (.seq (.asg 5 (.ite (.cal 222 (.cons (.var 0) (.cons (.var 1) (.cons (.var 6) (.cons (.var 5) (.nil)))))) (.var 6) (.var 5))) (.nop))) (.seq (.exp (.mth (.remove) (.var 3) (.cons (.var 5) (.nil)))) (.seq (.asg 4 (.bin (.add) (.var 4) (.tup (.cons (.var 5) (.nil))))) (.nop)))))) (.seq (.ret (.var 4)) (.nop))) }
def f224 : FI := { ar := 3, nl := 5, body := .seq (.asg 3 (.cst (.str []))) (.seq (.for [4] (.irng (.cal 14 (.cons (.var 0) (.cons (.bin (.add) (.var 2) (.cst (.int 1))) (.nil))))) (.seq (.asg 3 (.bin (.add) (.var 3) (.cal 15 (.cons (.var 0) (.cons (.pri (.list) (.cons (.slc (.cst (.str [97, 98, 99, 100, 101])) (.nil) (.cons (.bin (.idx) (.var 1) (.cst (.int 0))) (.nil)) false) (.nil))) (.nil)))))) (.nop))) (.seq (.ret (.var 3)) (.nop))) }
def f226 : FI := { ar := 4, nl := 8, body := .seq (.asg 4 (.pri (.list) (.cons (.var 3) (.nil)))) (.seq (.for [5] (.iseq (.var 2)) (.seq (.asg 6 (.lst (.cons (.var 5) (.nil)))) (.seq (.ifs (.bin (.eq) (.bin (.idx) (.var 5) (.cst (.int 0))) (.cst (.str [105, 102]))) (.seq (.asg 6 (.ite (.cal 222 (.cons (.var 0) (.cons (.var 1) (.cons (.bin (.idx) (.var 5) (.cst (.int 1))) (.cons (.bin (.idx) (.var 5) (.cst (.int 2))) (.nil)))))) (.bin (.idx) (.var 5) (.cst (.int 3))) (.bin (.idx) (.var 5) (.cst (.int 4))))) (.nop)) (.nop)) (.seq (.for [7] (.iseq (.var 6)) (.seq (.asg 4 (.cal 225 (.cons (.var 0) (.cons (.var 1) (.cons (.var 4) (.cons (.var 7) (.nil))))))) (.nop))) (.nop))))) (.seq (.ret (.pri (.tuple) (.cons (.var 4) (.nil)))) (.nop))) }
def f227 : FI := { ar := 2, nl := 2, body := .seq (.ret (.lam (.cal 114 (.cons (.var 0) (.cons (.tup (.cons (.cst (.str [97])) (.cons (.cst (.str [98])) (.cons (.cst (.str [99])) (.cons (.cst (.str [100])) (.cons (.cst (.str [101])) (.cons (.cst (.str [101, 101])) (.nil)))))))) (.cons (.var 1) (.cons (.bin (.mul) (.tup (.cons (.cst (.str [97])) (.nil))) (.cst (.int 9))) (.nil)))))))) (.nop) }
def f228 : FI := { ar := 1, nl := 10, body := .seq (.unp [4, 5] (.tup (.cons (.tup (.cons (.cst (.int 5)) (.cons (.tup (.cons (.cst (.str [101, 101])) (.nil))) (.cons (.cst (.str [100])) (.nil))))) (.cons (.tup (.cons (.tup (.cons (.cst (.str [105, 102])) (.cons (.cst (.str [97])) (.cons (.cst (.str [98])) (.cons (.bin (.mul) (.tup (.cons (.tup (.cons (.cst (.str [116, 117, 114, 110])) (.cons (.cst (.int 0)) (.nil)))) (.nil))) (.cst (.int 3))) (.cons (.bin (.mul) (.tup (.cons (.tup (.cons (.cst (.str [116, 117, 114, 110])) (.cons (.cst (.int 6)) (.nil)))) (.nil))) (.cst (.int 3))) (.nil))))))) (.cons (.tup (.cons (.cst (.str [104, 97, 108, 118, 101])) (.cons (.bin (.mul) (.cst (.str [99])) (.cst (.int 8))) (.nil)))) (.nil)))) (.nil))))) (.seq (.asg 1 (.tup (.cons (.tup (.cons (.cst (.str [115, 111, 114, 116, 101, 100])) (.cons (.tup (.cons (.cst (.str [97, 97, 97, 97, 97, 97, 97, 97])) (.cons (.cst (.str [98])) (.cons (.cst (.str [99])) (.nil))))) (.nil)))) (.cons (.tup (.cons (.cst (.str [115, 111, 114, 116, 101, 100])) (.cons (.tup (.cons (.cst (.str [99])) (.cons (.cst (.str [100, 99])) (.cons (.cst (.str [101])) (.cons (.cst (.str [101, 101])) (.nil)))))) (.nil)))) (.cons (.tup (.cons (.cst (.str [97, 104, 101, 97, 100])) (.cons (.cst (.str [97])) (.cons (.cst (.str [99, 98])) (.nil))))) (.nil)))))) (.seq (.ifs (.or (.not (.cal 41 (.cons (.var 4) (.cons (.var 5) (.nil))))) (.or (.cal 41 (.cons (.var 4) (.cons (.bin (.add) (.var 5) (.tup (.cons (.tup (.cons (.cst (.str [116, 117, 114, 110])) (.cons (.cst (.int 0)) (.nil)))) (.nil)))) (.nil)))) (.cal 2 (.cons (.tup (.cons (.cst (.int 5)) (.cons (.tup (.cons (.cst (.str [101, 97])) (.cons (.cst (.str [101, 101])) (.nil)))) (.cons (.cst (.str [])) (.nil))))) (.nil))))) (.seq (.ret (.cst (.bl false))) (.nop)) (.nop)) (.seq (.ifs (.or (.bin (.ne) (.cal 82 (.cons (.var 4) (.cons (.var 1) (.nil)))) (.cst (.int 3))) (.or (.bin (.ne) (.bin (.idx) (.cal 10 (.cons (.var 4) (.nil))) (.cst (.int 5))) (.cst (.str [101, 101]))) (.not (.cal 35 (.cons (.var 4) (.cons (.bin (.add) (.var 1) (.slc (.var 1) (.nil) (.cons (.cst (.int 2)) (.nil)) false)) (.nil))))))) (.seq (.ret (.cst (.bl false))) (.nop)) (.nop)) (.seq (.ifs (.or (.cal 35 (.cons (.var 4) (.cons (.bin (.mul) (.var 1) (.cst (.int 2))) (.nil)))) (.bin (.ne) (.cal 82 (.cons (.var 4) (.cons (.tup (.nil)) (.nil)))) (.cst (.int 720)))) (.seq (.ret (.cst (.bl false))) (.nop)) (.nop)) (.seq (.for [2] (.irng (.pri (.max2) (.cons (.cst (.int 1)) (.cons (.pri (.min2) (.cons (.cst (.int 3)) (.cons (.pri (.len) (.cons (.var 0) (.nil))) (.nil)))) (.nil))))) (.seq (.asg 6 (.cal 13 (.cons (.var 0) (.cons (.var 2) (.nil))))) (.seq (.asg 7 (.pri (.tuple) (.cons (.com (.cal 224 (.cons (.var 6) (.cons (.var 4) (.cons (.cst (.int 8)) (.nil))))) [9] (.irng (.cst (.int 8))) (.cst (.bl true)) [9]) (.nil)))) (.seq (.asg 8 (.tup (.cons (.cst (.str [99])) (.cons (.cst (.str [97])) (.cons (.cst (.str [101, 101])) (.cons (.cst (.str [98])) (.cons (.cst (.str [101])) (.cons (.cst (.str [100])) (.nil))))))))) (.seq (.ifs (.bin (.ne) (.pri (.tuple) (.cons (.cal 65 (.cons (.var 4) (.cons (.var 8) (.cons (.var 7) (.nil))))) (.nil))) (.cal 223 (.cons (.var 4) (.cons (.var 8) (.cons (.var 7) (.nil)))))) (.seq (.ret (.cst (.bl false))) (.nop)) (.nop)) (.seq (.ifs (.bin (.ne) (.cal 114 (.cons (.var 4) (.cons (.var 8) (.cons (.var 5) (.cons (.var 7) (.nil)))))) (.cal 226 (.cons (.var 4) (.cons (.var 8) (.cons (.var 5) (.cons (.var 7) (.nil))))))) (.seq (.ret (.cst (.bl false))) (.nop)) (.nop)) (.seq (.ifs (.or (.bin (.eq) (.cal 115 (.cons (.var 4) (.cons (.var 1) (.cons (.slc (.var 5) (.cons (.cst (.int 1)) (.nil)) (.nil) false) (.cons (.var 7) (.nil)))))) (.lst (.nil))) (.bin (.ne) (.pri (.len) (.cons (.cal 114 (.cons (.var 4) (.cons (.var 8) (.cons (.var 5) (.cons (.var 7) (.nil)))))) (.nil))) (.cst (.int 9)))) (.seq (.ret (.cst (.bl false))) (.nop)) (.nop)) (.nop)))))))) (.seq (.asg 3 (.lst (.cons (.lam (.cal 148 (.cons (.var 4) (.cons (.tup (.nil)) (.cons (.bin (.idx) (.var 1) (.cst (.int 0))) (.nil)))))) (.cons (.cal 227 (.cons (.var 4) (.cons (.var 5) (.nil)))) (.nil))))) (.seq (.ifs (.or (.bin (.ne) (.var 3) (.lst (.cons (.cst (.str [109, 97, 110, 121, 32, 118, 97, 108, 117, 101])) (.cons (.cst (.str [119, 111, 114, 100, 115, 32, 118, 97, 108, 117, 101])) (.nil))))) (.bin (.ne) (.cal 148 (.cons (.var 4) (.cons (.var 1) (.cons (.tup (.cons (.cst (.str [97, 104, 101, 97, 100])) (.cons (.cst (.str [100, 101])) (.cons (.cst (.str [101, 100])) (.nil))))) (.nil))))) (.cst (.int 1)))) (.seq (.ret (.cst (.bl false))) (.nop)) (.nop)) (.seq (.ret (.and (.bin (.eq) (.cal 12 (.cons (.var 4) (.cons (.cst (.str [101, 101, 101, 101, 101, 101, 101, 101])) (.nil)))) (.bin (.mul) (.tup (.cons (.cst (.str [101, 101])) (.nil))) (.cst (.int 4)))) (.bin (.eq) (.cal 12 (.cons (.var 4) (.cons (.cst (.str [97, 101, 101, 101, 97, 97, 101, 101])) (.nil)))) (.tup (.cons (.cst (.str [97])) (.cons (.cst (.str [101, 101])) (.cons (.cst (.str [101])) (.cons (.cst (.str [97])) (.cons (.cst (.str [97])) (.cons (.cst (.str [101, 101])) (.nil))))))))))) (.nop))))))))) }
def P : Prg := ([(0, f0), (1, f1), (2, f2), (3, f3), (4, f4), (5, f5), (6, f6), (7, f7), (8, f8), (9, f9), (10, f10), (11, f11), (12, f12), (13, f13), (14, f14)] : List (Nat × FI)) ++ ([(15, f15), (16, f16), (17, f17), (18, f18), (19, f19), (20, f20), (21, f21), (22, f22), (23, f23), (24, f24), (25, f25), (28, f28), (29, f29), (30, f30), (31, f31)] : List (Nat × FI)) ++ ([(32, f32), (33, f33), (34, f34), (35, f35), (36, f36), (37, f37), (38, f38), (39, f39), (40, f40), (41, f41), (42, f42), (43, f43), (44, f44), (45, f45), (46, f46)] : List (Nat × FI)) ++ ([(47, f47), (48, f48), (49, f49), (50, f50), (51, f51), (53, f53), (54, f54), (55, f55), (56, f56), (57, f57), (58, f58), (59, f59), (60, f60), (61, f61), (62, f62)] : List (Nat × FI)) ++ ([(63, f63), (64, f64), (65, f65), (66, f66), (67, f67), (68, f68), (69, f69), (70, f70), (71, f71), (72, f72), (73, f73), (74, f74), (75, f75), (76, f76), (77, f77)] : List (Nat × FI)) ++ ([(78, f78), (79, f79), (80, f80), (81, f81), (82, f82), (83, f83), (84, f84), (85, f85), (86, f86), (87, f87), (88, f88), (89, f89), (90, f90), (91, f91), (92, f92)] : List (Nat × FI)) ++ ([(93, f93), (94, f94), (95, f95), (96, f96), (97, f97), (98, f98), (99, f99), (100, f100), (101, f101), (102, f102), (103, f103), (104, f104), (105, f105), (106, f106), (107, f107)] : List (Nat × FI)) ++ ([(108, f108), (109, f109), (110, f110), (111, f111), (112, f112), (113, f113), (114, f114), (117, f117), (119, f119), (120, f120), (121, f121), (122, f122), (123, f123), (124, f124), (125, f125)] : List (Nat × FI)) ++ ([(126, f126), (127, f127), (128, f128), (129, f129), (130, f130), (131, f131), (132, f132), (133, f133), (134, f134), (135, f135), (136, f136), (137, f137), (138, f138), (139, f139), (140, f140)] : List (Nat × FI)) ++ ([(141, f141), (142, f142), (143, f143), (145, f145), (148, f148), (149, f149), (150, f150), (151, f151), (152, f152), (153, f153), (154, f154), (155, f155), (156, f156), (157, f157), (158, f158)] : List (Nat × FI)) ++ ([(159, f159), (160, f160), (161, f161), (162, f162), (163, f163), (164, f164), (165, f165), (166, f166), (167, f167), (168, f168), (169, f169), (170, f170), (171, f171), (172, f172), (173, f173)] : List (Nat × FI)) ++ ([(174, f174), (180, f180), (181, f181), (182, f182), (183, f183), (184, f184), (185, f185), (189, f189), (200, f200), (201, f201), (202, f202), (204, f204), (205, f205), (206, f206), (207, f207)] : List (Nat × FI)) ++ ([(208, f208), (209, f209), (217, f217), (218, f218), (219, f219), (220, f220), (221, f221), (222, f222), (223, f223), (224, f224), (226, f226), (227, f227), (228, f228)] : List (Nat × FI))
theorem l0 : P.lookup 0 = some f0 := rfl
theorem l1 : P.lookup 1 = some f1 := rfl
theorem l2 : P.lookup 2 = some f2 := rfl
theorem l3 : P.lookup 3 = some f3 := rfl
theorem l4 : P.lookup 4 = some f4 := rfl
theorem l5 : P.lookup 5 = some f5 := rfl
theorem l6 : P.lookup 6 = some f6 := rfl
theorem l7 : P.lookup 7 = some f7 := rfl
theorem l8 : P.lookup 8 = some f8 := rfl
theorem l9 : P.lookup 9 = some f9 := rfl
theorem l10 : P.lookup 10 = some f10 := rfl
theorem l11 : P.lookup 11 = some f11 := rfl
theorem l12 : P.lookup 12 = some f12 := rfl
theorem l13 : P.lookup 13 = some f13 := rfl
theorem l14 : P.lookup 14 = some f14 := rfl
theorem l15 : P.lookup 15 = some f15 := rfl
theorem l16 : P.lookup 16 = some f16 := rfl
theorem l17 : P.lookup 17 = some f17 := rfl
theorem l18 : P.lookup 18 = some f18 := rfl
theorem l19 : P.lookup 19 = some f19 := rfl
theorem l20 : P.lookup 20 = some f20 := rfl
theorem l21 : P.lookup 21 = some f21 := rfl
theorem l22 : P.lookup 22 = some f22 := rfl
theorem l23 : P.lookup 23 = some f23 := rfl
theorem l24 : P.lookup 24 = some f24 := rfl
theorem l25 : P.lookup 25 = some f25 := rfl
theorem l28 : P.lookup 28 = some f28 := rfl
theorem l29 : P.lookup 29 = some f29 := rfl
theorem l30 : P.lookup 30 = some f30 := rfl
theorem l31 : P.lookup 31 = some f31 := rfl
theorem l32 : P.lookup 32 = some f32 := rfl
theorem l33 : P.lookup 33 = some f33 := rfl
theorem l34 : P.lookup 34 = some f34 := rfl
theorem l35 : P.lookup 35 = some f35 := rfl
theorem l36 : P.lookup 36 = some f36 := rfl
theorem l37 : P.lookup 37 = some f37 := rfl
theorem l38 : P.lookup 38 = some f38 := rfl
theorem l39 : P.lookup 39 = some f39 := rfl
theorem l40 : P.lookup 40 = some f40 := rfl
theorem l41 : P.lookup 41 = some f41 := rfl
theorem l42 : P.lookup 42 = some f42 := rfl
theorem l43 : P.lookup 43 = some f43 := rfl
theorem l44 : P.lookup 44 = some f44 := rfl
theorem l45 : P.lookup 45 = some f45 := rfl
theorem l46 : P.lookup 46 = some f46 := rfl
theorem l47 : P.lookup 47 = some f47 := rfl
theorem l48 : P.lookup 48 = some f48 := rfl
theorem l49 : P.lookup 49 = some f49 := rfl
theorem l50 : P.lookup 50 = some f50 := rfl
theorem l51 : P.lookup 51 = some f51 := rfl
theorem l53 : P.lookup 53 = some f53 := rfl
theorem l54 : P.lookup 54 = some f54 := rfl
theorem l55 : P.lookup 55 = some f55 := rfl
theorem l56 : P.lookup 56 = some f56 := rfl
theorem l57 : P.lookup 57 = some f57 := rfl
theorem l58 : P.lookup 58 = some f58 := rfl
theorem l59 : P.lookup 59 = some f59 := rfl
theorem l60 : P.lookup 60 = some f60 := rfl
theorem l61 : P.lookup 61 = some f61 := rfl
theorem l62 : P.lookup 62 = some f62 := rfl
theorem l63 : P.lookup 63 = some f63 := rfl
theorem l64 : P.lookup 64 = some f64 := rfl
theorem l65 : P.lookup 65 = some f65 := rfl
theorem l66 : P.lookup 66 = some f66 := rfl
theorem l67 : P.lookup 67 = some f67 := rfl
theorem l68 : P.lookup 68 = some f68 := rfl
theorem l69 : P.lookup 69 = some f69 := rfl
theorem l70 : P.lookup 70 = some f70 := rfl
theorem l71 : P.lookup 71 = some f71 := rfl
theorem l72 : P.lookup 72 = some f72 := rfl
theorem l73 : P.lookup 73 = some f73 := rfl
theorem l74 : P.lookup 74 = some f74 := rfl
theorem l75 : P.lookup 75 = some f75 := rfl
theorem l76 : P.lookup 76 = some f76 := rfl
theorem l77 : P.lookup 77 = some f77 := rfl
theorem l78 : P.lookup 78 = some f78 := rfl
theorem l79 : P.lookup 79 = some f79 := rfl
theorem l80 : P.lookup 80 = some f80 := rfl
theorem l81 : P.lookup 81 = some f81 := rfl
theorem l82 : P.lookup 82 = some f82 := rfl
theorem l83 : P.lookup 83 = some f83 := rfl
theorem l84 : P.lookup 84 = some f84 := rfl
theorem l85 : P.lookup 85 = some f85 := rfl
theorem l86 : P.lookup 86 = some f86 := rfl
theorem l87 : P.lookup 87 = some f87 := rfl
theorem l88 : P.lookup 88 = some f88 := rfl
theorem l89 : P.lookup 89 = some f89 := rfl
theorem l90 : P.lookup 90 = some f90 := rfl
theorem l91 : P.lookup 91 = some f91 := rfl
theorem l92 : P.lookup 92 = some f92 := rfl
theorem l93 : P.lookup 93 = some f93 := rfl
theorem l94 : P.lookup 94 = some f94 := rfl
theorem l95 : P.lookup 95 = some f95 := rfl
theorem l96 : P.lookup 96 = some f96 := rfl
theorem l97 : P.lookup 97 = some f97 := rfl
theorem l98 : P.lookup 98 = some f98 := rfl
theorem l99 : P.lookup 99 = some f99 := rfl
theorem l100 : P.lookup 100 = some f100 := rfl
theorem l101 : P.lookup 101 = some f101 := rfl
theorem l102 : P.lookup 102 = some f102 := rfl
theorem l103 : P.lookup 103 = some f103 := rfl
theorem l104 : P.lookup 104 = some f104 := rfl
theorem l105 : P.lookup 105 = some f105 := rfl
theorem l106 : P.lookup 106 = some f106 := rfl
theorem l107 : P.lookup 107 = some f107 := rfl
theorem l108 : P.lookup 108 = some f108 := rfl
theorem l109 : P.lookup 109 = some f109 := rfl
theorem l110 : P.lookup 110 = some f110 := rfl
theorem l111 : P.lookup 111 = some f111 := rfl
theorem l112 : P.lookup 112 = some f112 := rfl
theorem l113 : P.lookup 113 = some f113 := rfl
theorem l114 : P.lookup 114 = some f114 := rfl
theorem l117 : P.lookup 117 = some f117 := rfl
theorem l119 : P.lookup 119 = some f119 := rfl
theorem l120 : P.lookup 120 = some f120 := rfl
theorem l121 : P.lookup 121 = some f121 := rfl
theorem l122 : P.lookup 122 = some f122 := rfl
theorem l123 : P.lookup 123 = some f123 := rfl
theorem l124 : P.lookup 124 = some f124 := rfl
theorem l125 : P.lookup 125 = some f125 := rfl
theorem l126 : P.lookup 126 = some f126 := rfl
theorem l127 : P.lookup 127 = some f127 := rfl
theorem l128 : P.lookup 128 = some f128 := rfl
theorem l129 : P.lookup 129 = some f129 := rfl
theorem l130 : P.lookup 130 = some f130 := rfl
theorem l131 : P.lookup 131 = some f131 := rfl
theorem l132 : P.lookup 132 = some f132 := rfl
theorem l133 : P.lookup 133 = some f133 := rfl
theorem l134 : P.lookup 134 = some f134 := rfl
theorem l135 : P.lookup 135 = some f135 := rfl
theorem l136 : P.lookup 136 = some f136 := rfl
theorem l137 : P.lookup 137 = some f137 := rfl
theorem l138 : P.lookup 138 = some f138 := rfl
theorem l139 : P.lookup 139 = some f139 := rfl
theorem l140 : P.lookup 140 = some f140 := rfl
theorem l141 : P.lookup 141 = some f141 := rfl
theorem l142 : P.lookup 142 = some f142 := rfl
theorem l143 : P.lookup 143 = some f143 := rfl
theorem l145 : P.lookup 145 = some f145 := rfl
theorem l148 : P.lookup 148 = some f148 := rfl
theorem l149 : P.lookup 149 = some f149 := rfl
theorem l150 : P.lookup 150 = some f150 := rfl
theorem l151 : P.lookup 151 = some f151 := rfl
theorem l152 : P.lookup 152 = some f152 := rfl
theorem l153 : P.lookup 153 = some f153 := rfl
theorem l154 : P.lookup 154 = some f154 := rfl
theorem l155 : P.lookup 155 = some f155 := rfl
theorem l156 : P.lookup 156 = some f156 := rfl
theorem l157 : P.lookup 157 = some f157 := rfl
theorem l158 : P.lookup 158 = some f158 := rfl
theorem l159 : P.lookup 159 = some f159 := rfl
theorem l160 : P.lookup 160 = some f160 := rfl
theorem l161 : P.lookup 161 = some f161 := rfl
theorem l162 : P.lookup 162 = some f162 := rfl
theorem l163 : P.lookup 163 = some f163 := rfl
theorem l164 : P.lookup 164 = some f164 := rfl
theorem l165 : P.lookup 165 = some f165 := rfl
theorem l166 : P.lookup 166 = some f166 := rfl
theorem l167 : P.lookup 167 = some f167 := rfl
theorem l168 : P.lookup 168 = some f168 := rfl
theorem l169 : P.lookup 169 = some f169 := rfl
theorem l170 : P.lookup 170 = some f170 := rfl
theorem l171 : P.lookup 171 = some f171 := rfl
theorem l172 : P.lookup 172 = some f172 := rfl
theorem l173 : P.lookup 173 = some f173 := rfl
theorem l174 : P.lookup 174 = some f174 := rfl
theorem l180 : P.lookup 180 = some f180 := rfl
theorem l181 : P.lookup 181 = some f181 := rfl
theorem l182 : P.lookup 182 = some f182 := rfl
theorem l183 : P.lookup 183 = some f183 := rfl
theorem l184 : P.lookup 184 = some f184 := rfl
theorem l185 : P.lookup 185 = some f185 := rfl
theorem l189 : P.lookup 189 = some f189 := rfl
theorem l200 : P.lookup 200 = some f200 := rfl
theorem l201 : P.lookup 201 = some f201 := rfl
theorem l202 : P.lookup 202 = some f202 := rfl
theorem l204 : P.lookup 204 = some f204 := rfl
theorem l205 : P.lookup 205 = some f205 := rfl
theorem l206 : P.lookup 206 = some f206 := rfl
theorem l207 : P.lookup 207 = some f207 := rfl
theorem l208 : P.lookup 208 = some f208 := rfl
theorem l209 : P.lookup 209 = some f209 := rfl
theorem l217 : P.lookup 217 = some f217 := rfl
theorem l218 : P.lookup 218 = some f218 := rfl
theorem l219 : P.lookup 219 = some f219 := rfl
theorem l220 : P.lookup 220 = some f220 := rfl
theorem l221 : P.lookup 221 = some f221 := rfl
theorem l222 : P.lookup 222 = some f222 := rfl
theorem l223 : P.lookup 223 = some f223 := rfl
theorem l224 : P.lookup 224 = some f224 := rfl
theorem l226 : P.lookup 226 = some f226 := rfl
theorem l227 : P.lookup 227 = some f227 := rfl
theorem l228 : P.lookup 228 = some f228 := rfl
end M
end G
set_option maxHeartbeats 1000000
namespace G
namespace K
open M
section
variable (F F2 : Orc) (ρ : Env)
def kNot (r : R PV) : R PV := (r.bind asT).bind fun d S1 => .ok (.bl (!d)) S1
def kAnd (b : Ex) (r : R PV) : R PV := (r.bind asB).bind fun d S1 => match d with
    | true => ev b F F2 ρ S1
    | false => .ok (.bl false) S1
def kOr (b : Ex) (r : R PV) : R PV := (r.bind asB).bind fun d S1 => match d with
    | true => .ok (.bl true) S1
    | false => ev b F F2 ρ S1
def kIte (a b : Ex) (r : R PV) : R PV := (r.bind asB).bind fun d S1 => match d with
    | true => ev a F F2 ρ S1
    | false => ev b F F2 ρ S1
def kB2 (o : B2) (x : PV) (r : R PV) : R PV := r.bind fun y S => b2 o x y S
def kB1 (o : B2) (b : Ex) (r : R PV) : R PV := r.bind fun x S1 => kB2 o x (ev b F F2 ρ S1)
def kC4 (p : B2) (y : PV) (r : R PV) : R PV := r.bind fun z S => b2 p y z S
def kC3 (p : B2) (y : PV) (c : Ex) (r : R PV) : R PV := (r.bind asB).bind fun d S3 => match d with
    | true => kC4 p y (ev c F F2 ρ S3)
    | false => .ok (.bl false) S3
def kC2 (o p : B2) (c : Ex) (x : PV) (r : R PV) : R PV := r.bind fun y S => kC3 F F2 ρ p y c (b2 o x y S)
def kC1 (o p : B2) (b c : Ex) (r : R PV) : R PV := r.bind fun x S => kC2 F F2 ρ o p c x (ev b F F2 ρ S)
def kTup (r : R (List PV)) : R PV := r.bind fun xs S1 => if xs.length ≤ 1000 then .ok (.tup xs) S1 else .bad
def kLst (r : R (List PV)) : R PV := r.bind fun xs S1 => if xs.length ≤ 1000 then .ok (.lst xs) S1 else .bad
def kMut (r : R PV) : R PV := r.bind fun v S1 => match v with
    | .lst xs => .ok (.ptr S1.length) (S1 ++ [.lst xs])
    | _ => .bad
def kPri (p : Pr) (r : R (List PV)) : R PV := r.bind fun xs S1 => pri p xs S1
def kM2 (p : Pr) (x : PV) (r : R (List PV)) : R PV := r.bind fun xs S2 => pri p (x :: xs) S2
def kM1 (p : Pr) (es : Ex) (r : R PV) : R PV := r.bind fun x S1 => if recv p S1 x then kM2 p x (evA es F F2 ρ S1) else .bad
def kCal (g : Nat) (r : R (List PV)) : R PV := r.bind fun xs S1 => F g xs S1
def kLam (r : R PV) : R PV := match r with
    | .ok _ S1 => .ok (.str []) S1
    | .exc c _ S1 => if c < 13 then .ok (.str (excWord c)) S1 else .bad
    | .bad => .bad
def kS3 (back : Bool) (x : PV) (lo : Option Int) (r : R (Option Int)) : R PV := r.bind fun hi S3 => slc back x lo hi S3
def kS2 (u : Ex) (back : Bool) (x : PV) (r : R (Option Int)) : R PV := r.bind fun lo S2 => kS3 back x lo (evO u F F2 ρ S2)
def kS1 (l u : Ex) (back : Bool) (r : R PV) : R PV := r.bind fun x S1 => kS2 F F2 ρ u back x (evO l F F2 ρ S1)
/-- a comprehension over these items; ρ: the block's names -/
def lcR (elt cnd : Ex) (tg : List Nat) (xs : List PV) (S : Store) : R (List PV) := lcGo (fun r s => ev cnd F F2 r s) (fun r s => ev elt F F2 r s) tg ρ none xs S
/-- .. over a mutable list -/
def lcQ (elt cnd : Ex) (tg : List Nat) (g : Nat × List PV) (xs : List PV) (S : Store) : R (List PV) := lcGo (fun r s => ev cnd F F2 r s) (fun r s => ev elt F F2 r s) tg ρ (some g) xs S
def W0 (xs : List PV) : Wk := ⟨xs, none⟩
def W1 (m : Nat) (xs : List PV) : Wk := ⟨xs, some (m, xs)⟩
def kL (r : R (List PV)) : R PV := match r with
    | .ok vs S2 => .ok (.lst vs) S2
    | _ => .bad
def kCom (elt : Ex) (tg : List Nat) (cnd : Ex) (own : List Nat) (r : R Wk) : R PV := r.bind fun w S1 => kL (lcGo (fun r s => ev cnd F F2 r s) (fun r s => ev elt F F2 r s) tg (wipeE ρ own) w.g w.xs S1)
def lc2I (elt : Ex) (tg1 : List Nat) (it1 cnd1 : Ex) (own1 : List Nat) : Env → Store → R (List PV) := fun r s => match evI it1 F F2 r s with
      | .ok w s1 => lcGo (fun r s => ev cnd1 F F2 r s) (fun r s => ev elt F F2 r s) tg1 (wipeE r own1) w.g w.xs s1
      | _ => .bad
def lc2R (elt : Ex) (tg1 : List Nat) (it1 cnd1 : Ex) (own1 : List Nat) (tg : List Nat) (xs : List PV) (S : Store) : R (List PV) := lc2Go (lc2I F F2 elt tg1 it1 cnd1 own1) tg ρ none xs S
def kL2 (r : R (List PV)) : R PV := match r with
    | .ok vs S2 => if vs.length ≤ SL then .ok (.lst vs) S2 else .bad
    | _ => .bad
def kCo2 (elt : Ex) (tg tg1 : List Nat) (it1 cnd1 : Ex) (own1 own : List Nat) (r : R Wk) : R PV := r.bind fun w S1 => kL2 (lc2Go (lc2I F F2 elt tg1 it1 cnd1 own1) tg (wipeE ρ own) w.g w.xs S1)
def kA2 (x : PV) (r : R (List PV)) : R (List PV) := r.bind fun xs S2 => .ok (x :: xs) S2
def kA1 (es : Ex) (r : R PV) : R (List PV) := r.bind fun x S1 => kA2 x (evA es F F2 ρ S1)
def kO (r : R PV) : R (Option Int) := r.bind asI
def kRng (r : R PV) : R Wk := r.bind fun x S1 => match x with
    | .int n => if n < 1000000 ∧ -1000000 < n then .ok ⟨rangeP n, none⟩ S1 else .bad
    | _ => .bad
def kSeq (r : R PV) : R Wk := r.bind fun x S1 => match x with
    | .tup xs => .ok ⟨xs, none⟩ S1
    | .lst xs => .ok ⟨xs, none⟩ S1
    | .str xs => .ok ⟨xs.map fun c => .str [c], none⟩ S1
    | .ptr m => match S1[m]? with
      | some (.lst xs) => .ok ⟨xs, some (m, xs)⟩ S1
      | _ => .bad
    | _ => .bad
def kZ2 (x : PV) (r : R PV) : R Wk := r.bind fun y S2 => match x, y with
    | .tup xs, .tup ys => .ok ⟨zipP xs ys, none⟩ S2
    | .lst xs, .lst ys => .ok ⟨zipP xs ys, none⟩ S2
    | _, _ => .bad
def kZ1 (b : Ex) (r : R PV) : R Wk := r.bind fun x S1 => kZ2 x (ev b F F2 ρ S1)
def kEnu (r : R PV) : R Wk := r.bind fun x S1 => match x with
    | .lst xs => .ok ⟨enuP 0 xs, none⟩ S1
    | _ => .bad
def qSeq (b : St) (r : SR) : SR := match r with
    | .nx ρ1 S1 => evS b F F2 ρ1 S1
    | r => r
def qAsg (i : Nat) (r : R PV) : SR := SR.of r ρ fun v S1 => .nx (ρ.set i (some v)) S1
def qPar (is : List Nat) (r : R (List PV)) : SR := SR.of r ρ fun xs S1 => if xs.length = is.length then .nx (setAll is xs ρ) S1 else .bad
def qUnp (is : List Nat) (r : R PV) : SR := SR.of r ρ fun v S1 => match v with
    | .tup xs => if xs.length = is.length then .nx (setAll is xs ρ) S1 else .bad
    | _ => .bad
def qT3 (v w : PV) (r : R PV) : SR := SR.of r ρ fun j S3 => match stIdx w j v S3 with
    | some S4 => .nx ρ S4
    | none => .bad
def qT2 (i : Ex) (v : PV) (r : R PV) : SR := SR.of r ρ fun w S2 => qT3 ρ v w (ev i F F2 ρ S2)
def qT1 (o i : Ex) (r : R PV) : SR := SR.of r ρ fun v S1 => qT2 F F2 ρ i v (ev o F F2 ρ S1)
def kD4 (k x l : PV) (r : R PV) : R PV := r.bind fun y S4 => match dspOf k x l y with
    | some kvs => .ok (.ptr S4.length) (S4 ++ [.dis kvs])
    | none => .bad
def kD3 (d : Ex) (k x : PV) (r : R PV) : R PV := r.bind fun l S3 => kD4 k x l (ev d F F2 ρ S3)
def kD2 (c d : Ex) (k : PV) (r : R PV) : R PV := r.bind fun x S2 => kD3 F F2 ρ d k x (ev c F F2 ρ S2)
def kD1 (b c d : Ex) (r : R PV) : R PV := r.bind fun k S1 => kD2 F F2 ρ c d k (ev b F F2 ρ S1)
def qU6 (w2 y : PV) (r : R PV) : SR := SR.of r ρ fun j2 S6 => match stIdx w2 j2 y S6 with
    | some S7 => .nx ρ S7
    | none => .bad
def qU5 (i2 : Ex) (y : PV) (r : R PV) : SR := SR.of r ρ fun w2 S5 => qU6 ρ w2 y (ev i2 F F2 ρ S5)
def qU3 (o2 i2 : Ex) (w x y : PV) (r : R PV) : SR := SR.of r ρ fun j S3 => match stIdx w j x S3 with
    | some S4 => qU5 F F2 ρ i2 y (ev o2 F F2 ρ S4)
    | none => .bad
def qU2 (i o2 i2 : Ex) (x y : PV) (r : R PV) : SR := SR.of r ρ fun w S2 => qU3 F F2 ρ o2 i2 w x y (ev i F F2 ρ S2)
def qU1 (o i o2 i2 : Ex) (r : R PV) : SR := SR.of r ρ fun v S1 => match v with
    | .tup [x, y] => qU2 F F2 ρ i o2 i2 x y (ev o F F2 ρ S1)
    | _ => .bad
def qExp (r : R PV) : SR := SR.of r ρ fun _ S1 => .nx ρ S1
def qRet (r : R PV) : SR := SR.of r ρ fun v S1 => .rt v S1
def qIf (t e : St) (r : R PV) : SR := SR.of (r.bind asB) ρ fun d S1 => match d with
    | true => evS t F F2 ρ S1
    | false => evS e F F2 ρ S1
def whR (c : Ex) (b : St) (n : Nat) (S : Store) : SR := whGo (fun r s => ev c F F2 r s) (fun r s => evS b F F2 r s) n ρ S
def foR (tg : List Nat) (b : St) (xs : List PV) (S : Store) : SR := foGo tg (fun r s => evS b F F2 r s) none xs ρ S
/-- .. over a mutable list -/
def foQ (tg : List Nat) (b : St) (g : Nat × List PV) (xs : List PV) (S : Store) : SR := foGo tg (fun r s => evS b F F2 r s) (some g) xs ρ S
def qFor (tg : List Nat) (b : St) (r : R Wk) : SR := SR.of r ρ fun w S1 => foGo tg (fun r s => evS b F F2 r s) w.g w.xs ρ S1
def flR (tg : List Nat) (b : St) (m f i : Nat) (S : Store) : SR := folGo tg (fun r s => evS b F F2 r s) m f i ρ S
def qFol (tg : List Nat) (b : St) (r : R PV) : SR := SR.of r ρ fun v S1 => match v with
    | .ptr m => flR F F2 ρ tg b m WH 0 S1
    | _ => .bad
end
section
variable {F F2 : Orc} {ρ : Env} {S : Store}
theorem e_cst (c : Ct) : ev (.cst c) F F2 ρ S = .ok c.pv S := (rfl)
def kVar (x : Option (Option PV)) (S : Store) : R PV := match x with
    | some (some v) => .ok v S
    | _ => .bad
theorem k_var (v : PV) : kVar (some (some v)) S = .ok v S := (rfl)
theorem e_var (i : Nat) : ev (.var i) F F2 ρ S = kVar ρ[i]? S := (rfl)
theorem e_not (a : Ex) : ev (.not a) F F2 ρ S = kNot (ev a F F2 ρ S) := (rfl)
theorem e_and (a b : Ex) : ev (.and a b) F F2 ρ S = kAnd F F2 ρ b (ev a F F2 ρ S) := (rfl)
theorem e_or (a b : Ex) : ev (.or a b) F F2 ρ S = kOr F F2 ρ b (ev a F F2 ρ S) := (rfl)
theorem e_ite (c a b : Ex) : ev (.ite c a b) F F2 ρ S = kIte F F2 ρ a b (ev c F F2 ρ S) := (rfl)
theorem e_bin (o : B2) (a b : Ex) : ev (.bin o a b) F F2 ρ S = kB1 F F2 ρ o b (ev a F F2 ρ S) := (rfl)
theorem e_chn (o p : B2) (a b c : Ex) : ev (.chn o p a b c) F F2 ρ S = kC1 F F2 ρ o p b c (ev a F F2 ρ S) := (rfl)
theorem e_tup (es : Ex) : ev (.tup es) F F2 ρ S = kTup (evA es F F2 ρ S) := (rfl)
theorem e_lst (es : Ex) : ev (.lst es) F F2 ρ S = kLst (evA es F F2 ρ S) := (rfl)
theorem e_mut (e : Ex) : ev (.mut e) F F2 ρ S = kMut (ev e F F2 ρ S) := (rfl)
theorem e_pri (p : Pr) (es : Ex) : ev (.pri p es) F F2 ρ S = kPri p (evA es F F2 ρ S) := (rfl)
theorem e_mth (p : Pr) (o es : Ex) : ev (.mth p o es) F F2 ρ S = kM1 F F2 ρ p es (ev o F F2 ρ S) := (rfl)
theorem e_cal (g : Nat) (es : Ex) : ev (.cal g es) F F2 ρ S = kCal F g (evA es F F2 ρ S) := (rfl)
theorem e_lam (b : Ex) : ev (.lam b) F F2 ρ S = kLam (ev b F2 badO ρ S) := (rfl)
theorem e_slc (a l u : Ex) (back : Bool) : ev (.slc a l u back) F F2 ρ S = kS1 F F2 ρ l u back (ev a F F2 ρ S) := (rfl)
theorem e_dsp (a b c d : Ex) : ev (.dsp a b c d) F F2 ρ S = kD1 F F2 ρ b c d (ev a F F2 ρ S) := (rfl)
theorem k_d1 (b c d : Ex) (k : PV) : kD1 F F2 ρ b c d (.ok k S) = kD2 F F2 ρ c d k (ev b F F2 ρ S) := (rfl)
theorem k_d2 (c d : Ex) (k x : PV) : kD2 F F2 ρ c d k (.ok x S) = kD3 F F2 ρ d k x (ev c F F2 ρ S) := (rfl)
theorem k_d3 (d : Ex) (k x l : PV) : kD3 F F2 ρ d k x (.ok l S) = kD4 k x l (ev d F F2 ρ S) := (rfl)
theorem k_d4 (a b : List Nat) (x y : PV) : kD4 (.str a) x (.str b) (.ok y S) = .ok (.ptr S.length) (S ++ [.dis (if a = b then [(a, y)] else [(a, x), (b, y)])]) := (rfl)
theorem s_st2 (o i o2 i2 e : Ex) : evS (.st2 o i o2 i2 e) F F2 ρ S = qU1 F F2 ρ o i o2 i2 (ev e F F2 ρ S) := (rfl)
theorem q_u1 (o i o2 i2 : Ex) (x y : PV) : qU1 F F2 ρ o i o2 i2 (.ok (.tup [x, y]) S) = qU2 F F2 ρ i o2 i2 x y (ev o F F2 ρ S) := (rfl)
theorem q_u2 (i o2 i2 : Ex) (w x y : PV) : qU2 F F2 ρ i o2 i2 x y (.ok w S) = qU3 F F2 ρ o2 i2 w x y (ev i F F2 ρ S) := (rfl)
theorem q_u3 (o2 i2 : Ex) (w x y j : PV) (S4 : Store) (h : stIdx w j x S = some S4) : qU3 F F2 ρ o2 i2 w x y (.ok j S) = qU5 F F2 ρ i2 y (ev o2 F F2 ρ S4) := by
  show (match stIdx w j x S with | some S4 => qU5 F F2 ρ i2 y (ev o2 F F2 ρ S4) | none => .bad) = _
  rw [h]
theorem q_u5 (i2 : Ex) (w2 y : PV) : qU5 F F2 ρ i2 y (.ok w2 S) = qU6 ρ w2 y (ev i2 F F2 ρ S) := (rfl)
theorem q_u6 (w2 y j : PV) (S4 : Store) (h : stIdx w2 j y S = some S4) : qU6 ρ w2 y (.ok j S) = .nx ρ S4 := by
  show (match stIdx w2 j y S with | some S4 => SR.nx ρ S4 | none => .bad) = _
  rw [h]
theorem e_com (elt : Ex) (tg : List Nat) (it cnd : Ex) (own : List Nat) : ev (.com elt tg it cnd own) F F2 ρ S = kCom F F2 ρ elt tg cnd own (evI it F F2 ρ S) := (rfl)
theorem e_co2 (elt : Ex) (tg : List Nat) (it : Ex) (tg1 : List Nat) (it1 cnd1 : Ex) (own1 own : List Nat) : ev (.co2 elt tg it tg1 it1 cnd1 own1 own) F F2 ρ S = kCo2 F F2 ρ elt tg tg1 it1 cnd1 own1 own (evI it F F2 ρ S) := (rfl)
theorem a_nil : evA .nil F F2 ρ S = .ok [] S := (rfl)
theorem a_cons (e es : Ex) : evA (.cons e es) F F2 ρ S = kA1 F F2 ρ es (ev e F F2 ρ S) := (rfl)
theorem o_nil : evO .nil F F2 ρ S = .ok none S := (rfl)
theorem o_cons (e es : Ex) : evO (.cons e es) F F2 ρ S = kO (ev e F F2 ρ S) := (rfl)
theorem i_rng (a : Ex) : evI (.irng a) F F2 ρ S = kRng (ev a F F2 ρ S) := (rfl)
theorem i_seq (a : Ex) : evI (.iseq a) F F2 ρ S = kSeq (ev a F F2 ρ S) := (rfl)
theorem i_zip (a b : Ex) : evI (.izip a b) F F2 ρ S = kZ1 F F2 ρ b (ev a F F2 ρ S) := (rfl)
theorem i_enu (a : Ex) : evI (.ienu a) F F2 ρ S = kEnu (ev a F F2 ρ S) := (rfl)
theorem s_nop : evS .nop F F2 ρ S = .nx ρ S := (rfl)
theorem s_seq (a b : St) : evS (.seq a b) F F2 ρ S = qSeq F F2 b (evS a F F2 ρ S) := (rfl)
theorem s_asg (i : Nat) (e : Ex) : evS (.asg i e) F F2 ρ S = qAsg ρ i (ev e F F2 ρ S) := (rfl)
theorem s_par (is : List Nat) (es : Ex) : evS (.par is es) F F2 ρ S = qPar ρ is (evA es F F2 ρ S) := (rfl)
theorem s_unp (is : List Nat) (e : Ex) : evS (.unp is e) F F2 ρ S = qUnp ρ is (ev e F F2 ρ S) := (rfl)
theorem s_sti (o i e : Ex) : evS (.sti o i e) F F2 ρ S = qT1 F F2 ρ o i (ev e F F2 ρ S) := (rfl)
theorem s_exp (e : Ex) : evS (.exp e) F F2 ρ S = qExp ρ (ev e F F2 ρ S) := (rfl)
theorem s_ret (e : Ex) : evS (.ret e) F F2 ρ S = qRet ρ (ev e F F2 ρ S) := (rfl)
theorem s_ifs (c : Ex) (t e : St) : evS (.ifs c t e) F F2 ρ S = qIf F F2 ρ t e (ev c F F2 ρ S) := (rfl)
theorem s_whl (c : Ex) (b : St) : evS (.whl c b) F F2 ρ S = whR F F2 ρ c b WH S := (rfl)
theorem s_for (tg : List Nat) (it : Ex) (b : St) : evS (.for tg it b) F F2 ρ S = qFor F F2 ρ tg b (evI it F F2 ρ S) := (rfl)
theorem s_fol (tg : List Nat) (e : Ex) (b : St) : evS (.fol tg e b) F F2 ρ S = qFol F F2 ρ tg b (ev e F F2 ρ S) := (rfl)
theorem s_rse (c : Nat) : evS (.rse c) F F2 ρ S = .ex c .non ρ S := (rfl)
def mAnd (p : Bool) (S : Store) (r : R PV) : R PV := match p with
  | true => r | false => .ok (.bl false) S
def mOr (p : Bool) (S : Store) (r : R PV) : R PV := match p with
  | true => .ok (.bl true) S | false => r
def mIte (p : Bool) (r t : R PV) : R PV := match p with
  | true => r | false => t
theorem mAnd_t (r : R PV) : mAnd true S r = r := (rfl)
theorem mAnd_f (r : R PV) : mAnd false S r = .ok (.bl false) S := (rfl)
theorem mAnd_ok (p q : Bool) : mAnd p S (.ok (.bl q) S) = .ok (.bl (p && q)) S := by cases p <;> rfl
theorem mOr_t (r : R PV) : mOr true S r = .ok (.bl true) S := (rfl)
theorem mOr_f (r : R PV) : mOr false S r = r := (rfl)
theorem mOr_ok (p q : Bool) : mOr p S (.ok (.bl q) S) = .ok (.bl (p || q)) S := by cases p <;> rfl
theorem mIte_t (r t : R PV) : mIte true r t = r := (rfl)
theorem mIte_f (r t : R PV) : mIte false r t = t := (rfl)
theorem k_not (d : Bool) : kNot (.ok (.bl d) S) = .ok (.bl (!d)) S := (rfl)
theorem k_noti (i : Int) : kNot (.ok (.int i) S) = .ok (.bl (!(i != 0))) S := (rfl)
theorem k_and (b : Ex) (d : Bool) : kAnd F F2 ρ b (.ok (.bl d) S) = mAnd d S (ev b F F2 ρ S) := by cases d <;> rfl
theorem k_or (b : Ex) (d : Bool) : kOr F F2 ρ b (.ok (.bl d) S) = mOr d S (ev b F F2 ρ S) := by cases d <;> rfl
theorem k_ite (a b : Ex) (d : Bool) : kIte F F2 ρ a b (.ok (.bl d) S) = mIte d (ev a F F2 ρ S) (ev b F F2 ρ S) := by cases d <;> rfl
theorem k_b2 (o : B2) (x y : PV) : kB2 o x (.ok y S) = b2 o x y S := (rfl)
theorem k_b1 (o : B2) (b : Ex) (x : PV) : kB1 F F2 ρ o b (.ok x S) = kB2 o x (ev b F F2 ρ S) := (rfl)
theorem k_c4 (p : B2) (y z : PV) : kC4 p y (.ok z S) = b2 p y z S := (rfl)
theorem k_c3 (p : B2) (y : PV) (c : Ex) (d : Bool) : kC3 F F2 ρ p y c (.ok (.bl d) S) = mAnd d S (kC4 p y (ev c F F2 ρ S)) := by cases d <;> rfl
theorem k_c2 (o p : B2) (c : Ex) (x y : PV) : kC2 F F2 ρ o p c x (.ok y S) = kC3 F F2 ρ p y c (b2 o x y S) := (rfl)
theorem k_c1 (o p : B2) (b c : Ex) (x : PV) : kC1 F F2 ρ o p b c (.ok x S) = kC2 F F2 ρ o p c x (ev b F F2 ρ S) := (rfl)
theorem k_tup (xs : List PV) (h : xs.length ≤ 1000) : kTup (.ok xs S) = .ok (.tup xs) S := if_pos h
theorem k_lst (xs : List PV) (h : xs.length ≤ 1000) : kLst (.ok xs S) = .ok (.lst xs) S := if_pos h
theorem k_mut (xs : List PV) : kMut (.ok (.lst xs) S) = .ok (.ptr S.length) (S ++ [.lst xs]) := (rfl)
theorem k_pri (p : Pr) (xs : List PV) : kPri p (.ok xs S) = pri p xs S := (rfl)
theorem k_m2 (p : Pr) (x : PV) (xs : List PV) : kM2 p x (.ok xs S) = pri p (x :: xs) S := (rfl)
theorem k_m1 (p : Pr) (es : Ex) (x : PV) (h : recv p S x = true) : kM1 F F2 ρ p es (.ok x S) = kM2 p x (evA es F F2 ρ S) := if_pos h
theorem k_m1i (es : Ex) (xs : List PV) : kM1 F F2 ρ .index es (.ok (.tup xs) S) = kM2 .index (.tup xs) (evA es F F2 ρ S) := (rfl)
theorem isL {n : Nat} {xs : List PV} (h : S[n]? = some (.lst xs)) : isLst S n = true := by unfold isLst; rw [h]
theorem isD {n : Nat} {xs : List (List Nat × PV)} (h : S[n]? = some (.dis xs)) : isDis S n = true := by unfold isDis; rw [h]
theorem k_m1r (es : Ex) (n : Nat) (h : isLst S n = true) : kM1 F F2 ρ .remove es (.ok (.ptr n) S) = kM2 .remove (.ptr n) (evA es F F2 ρ S) := if_pos h
theorem k_m1g (es : Ex) (n : Nat) (h : isDis S n = true) : kM1 F F2 ρ .dget es (.ok (.ptr n) S) = kM2 .dget (.ptr n) (evA es F F2 ρ S) := if_pos h
theorem k_m1a (es : Ex) (n : Nat) (h : isLst S n = true) : kM1 F F2 ρ .append es (.ok (.ptr n) S) = kM2 .append (.ptr n) (evA es F F2 ρ S) := if_pos h
theorem k_m1s (es : Ex) (n : List Nat) : kM1 F F2 ρ .split es (.ok (.str n) S) = kM2 .split (.str n) (evA es F F2 ρ S) := (rfl)
theorem k_m1j (es : Ex) (n : List Nat) : kM1 F F2 ρ .join es (.ok (.str n) S) = kM2 .join (.str n) (evA es F F2 ρ S) := (rfl)
theorem k_cal (g : Nat) (xs : List PV) : kCal F g (.ok xs S) = F g xs S := (rfl)
theorem k_lamk (x : PV) : kLam (.ok x S) = .ok (.str []) S := (rfl)
theorem k_lamx (c : Nat) (v : PV) (h : c < 13) : kLam (.exc c v S) = .ok (.str (excWord c)) S := if_pos h
theorem k_s3 (back : Bool) (x : PV) (lo hi : Option Int) : kS3 back x lo (.ok hi S) = slc back x lo hi S := (rfl)
theorem k_s2 (u : Ex) (back : Bool) (x : PV) (lo : Option Int) : kS2 F F2 ρ u back x (.ok lo S) = kS3 back x lo (evO u F F2 ρ S) := (rfl)
theorem k_s1 (l u : Ex) (back : Bool) (x : PV) : kS1 F F2 ρ l u back (.ok x S) = kS2 F F2 ρ u back x (evO l F F2 ρ S) := (rfl)
theorem k_com (elt : Ex) (tg : List Nat) (cnd : Ex) (own : List Nat) (xs : List PV) : kCom F F2 ρ elt tg cnd own (.ok (W0 xs) S) = kL (lcR F F2 (wipeE ρ own) elt cnd tg xs S) := (rfl)
theorem k_comq (elt : Ex) (tg : List Nat) (cnd : Ex) (own : List Nat) (m : Nat) (xs : List PV) : kCom F F2 ρ elt tg cnd own (.ok (W1 m xs) S) = kL (lcQ F F2 (wipeE ρ own) elt cnd tg (m, xs) xs S) := (rfl)
theorem k_l (vs : List PV) : kL (.ok vs S) = .ok (.lst vs) S := (rfl)
theorem k_co2 (elt : Ex) (tg tg1 : List Nat) (it1 cnd1 : Ex) (own1 own : List Nat) (xs : List PV) : kCo2 F F2 ρ elt tg tg1 it1 cnd1 own1 own (.ok (W0 xs) S) = kL2 (lc2R F F2 (wipeE ρ own) elt tg1 it1 cnd1 own1 tg xs S) := (rfl)
theorem k_l2 (vs : List PV) (h : vs.length ≤ SL) : kL2 (.ok vs S) = .ok (.lst vs) S := if_pos h
theorem k_a2 (x : PV) (xs : List PV) : kA2 x (.ok xs S) = .ok (x :: xs) S := (rfl)
theorem k_a1 (es : Ex) (x : PV) : kA1 F F2 ρ es (.ok x S) = kA2 x (evA es F F2 ρ S) := (rfl)
theorem k_o (i : Int) : kO (.ok (.int i) S) = .ok (some i) S := (rfl)
theorem k_rng (n : Int) (h : n < 1000000 ∧ -1000000 < n) : kRng (.ok (.int n) S) = .ok (W0 (rangeP n)) S := if_pos h
theorem k_seq_t (xs : List PV) : kSeq (.ok (.tup xs) S) = .ok (W0 xs) S := (rfl)
theorem k_seq_l (xs : List PV) : kSeq (.ok (.lst xs) S) = .ok (W0 xs) S := (rfl)
theorem k_seq_s (xs : List Nat) : kSeq (.ok (.str xs) S) = .ok (W0 (xs.map fun c => .str [c])) S := (rfl)
theorem k_seq_p (m : Nat) (xs : List PV) (h : S[m]? = some (.lst xs)) : kSeq (.ok (.ptr m) S) = .ok (W1 m xs) S := by
  show (match S[m]? with
      | some (MO.lst xs) => R.ok (⟨xs, some (m, xs)⟩ : Wk) S
      | _ => .bad) = _
  rw [h]; rfl
theorem k_z2_t (xs ys : List PV) : kZ2 (.tup xs) (.ok (.tup ys) S) = .ok (W0 (zipP xs ys)) S := (rfl)
theorem k_z2_l (xs ys : List PV) : kZ2 (.lst xs) (.ok (.lst ys) S) = .ok (W0 (zipP xs ys)) S := (rfl)
theorem k_z1 (b : Ex) (x : PV) : kZ1 F F2 ρ b (.ok x S) = kZ2 x (ev b F F2 ρ S) := (rfl)
theorem k_enu (xs : List PV) : kEnu (.ok (.lst xs) S) = .ok (W0 (enuP 0 xs)) S := (rfl)
theorem q_nx (b : St) (ρ1 : Env) : qSeq F F2 b (.nx ρ1 S) = evS b F F2 ρ1 S := (rfl)
theorem q_rt (b : St) (v : PV) : qSeq F F2 b (.rt v S) = .rt v S := (rfl)
theorem q_ex (b : St) (c : Nat) (v : PV) (ρ1 : Env) : qSeq F F2 b (.ex c v ρ1 S) = .ex c v ρ1 S := (rfl)
theorem q_asg (i : Nat) (v : PV) : qAsg ρ i (.ok v S) = .nx (ρ.set i (some v)) S := (rfl)
theorem q_par (is : List Nat) (xs : List PV) (h : xs.length = is.length) : qPar ρ is (.ok xs S) = .nx (setAll is xs ρ) S := if_pos h
theorem q_unp (is : List Nat) (xs : List PV) (h : xs.length = is.length) : qUnp ρ is (.ok (.tup xs) S) = .nx (setAll is xs ρ) S := if_pos h
theorem q_t3 (v w j : PV) (S4 : Store) (h : stIdx w j v S = some S4) : qT3 ρ v w (.ok j S) = .nx ρ S4 := by
  show (match stIdx w j v S with | some S4 => SR.nx ρ S4 | none => .bad) = _
  rw [h]
theorem q_t2 (i : Ex) (v w : PV) : qT2 F F2 ρ i v (.ok w S) = qT3 ρ v w (ev i F F2 ρ S) := (rfl)
theorem q_t1 (o i : Ex) (v : PV) : qT1 F F2 ρ o i (.ok v S) = qT2 F F2 ρ i v (ev o F F2 ρ S) := (rfl)
theorem q_exp (v : PV) : qExp ρ (.ok v S) = .nx ρ S := (rfl)
theorem q_expx (c : Nat) (v : PV) : qExp ρ (.exc c v S) = .ex c v ρ S := (rfl)
theorem q_ret (v : PV) : qRet ρ (.ok v S) = .rt v S := (rfl)
theorem q_retx (c : Nat) (v : PV) : qRet ρ (.exc c v S) = .ex c v ρ S := (rfl)
theorem q_asgx (i : Nat) (c : Nat) (v : PV) : qAsg ρ i (.exc c v S) = .ex c v ρ S := (rfl)
theorem q_if_t (t e : St) : qIf F F2 ρ t e (.ok (.bl true) S) = evS t F F2 ρ S := (rfl)
theorem q_if_f (t e : St) : qIf F F2 ρ t e (.ok (.bl false) S) = evS e F F2 ρ S := (rfl)
def mIf (p : Bool) (r t : SR) : SR := match p with
  | true => r | false => t
theorem mIf_t (r t : SR) : mIf true r t = r := (rfl)
theorem mIf_f (r t : SR) : mIf false r t = t := (rfl)
theorem q_if (t e : St) (d : Bool) : qIf F F2 ρ t e (.ok (.bl d) S) = mIf d (evS t F F2 ρ S) (evS e F F2 ρ S) := by cases d <;> rfl
theorem q_mif (b : St) (d : Bool) (r t : SR) : qSeq F F2 b (mIf d r t) = mIf d (qSeq F F2 b r) (qSeq F F2 b t) := by cases d <;> rfl
theorem mIf_rt (d : Bool) (x y : PV) : mIf d (.rt x S) (.rt y S) = .rt (if d then x else y) S := by cases d <;> rfl
theorem mIte_ok (d : Bool) (x y : PV) : mIte d (.ok x S) (.ok y S) = .ok (if d then x else y) S := by cases d <;> rfl
theorem q_for (tg : List Nat) (b : St) (xs : List PV) : qFor F F2 ρ tg b (.ok (W0 xs) S) = foR F F2 ρ tg b xs S := (rfl)
theorem q_forq (tg : List Nat) (b : St) (m : Nat) (xs : List PV) : qFor F F2 ρ tg b (.ok (W1 m xs) S) = foQ F F2 ρ tg b (m, xs) xs S := (rfl)
theorem q_fol (tg : List Nat) (b : St) (m : Nat) : qFol F F2 ρ tg b (.ok (.ptr m) S) = flR F F2 ρ tg b m WH 0 S := (rfl)
def foK (tg : List Nat) (b : St) (xs : List PV) (r : SR) : SR := match r with
      | .nx ρ2 S2 => foR F F2 ρ2 tg b xs S2
      | r => r
theorem fo_nil (tg : List Nat) (b : St) : foR F F2 ρ tg b [] S = .nx ρ S := (rfl)
def foT (tg : List Nat) (b : St) (xs : List PV) (S : Store) (ρo : Option Env) : SR := match ρo with
    | none => .bad
    | some ρ1 => foK (F := F) (F2 := F2) tg b xs (evS b F F2 ρ1 S)
theorem fo_cons (tg : List Nat) (b : St) (x : PV) (xs : List PV) : foR F F2 ρ tg b (x :: xs) S = foT (F := F) (F2 := F2) tg b xs S (tgSet tg x ρ) := by
  show (match tgSet tg x ρ with
    | none => SR.bad
    | some ρ1 => match evS b F F2 ρ1 S with
      | .nx ρ2 S2 => foGo tg (fun r s => evS b F F2 r s) none xs ρ2 S2
      | r => r) = _
  cases tgSet tg x ρ <;> rfl
theorem fo_t (tg : List Nat) (b : St) (xs : List PV) (ρ1 : Env) : foT (F := F) (F2 := F2) tg b xs S (some ρ1) = foK (F := F) (F2 := F2) tg b xs (evS b F F2 ρ1 S) := (rfl)
theorem fo_nx (tg : List Nat) (b : St) (xs : List PV) (ρ1 : Env) : foK (F := F) (F2 := F2) tg b xs (.nx ρ1 S) = foR F F2 ρ1 tg b xs S := (rfl)
theorem fo_rt (tg : List Nat) (b : St) (xs : List PV) (v : PV) : foK (F := F) (F2 := F2) tg b xs (.rt v S) = .rt v S := (rfl)
theorem fo_ex (tg : List Nat) (b : St) (xs : List PV) (c : Nat) (v : PV) (ρ1 : Env) : foK (F := F) (F2 := F2) tg b xs (.ex c v ρ1 S) = .ex c v ρ1 S := (rfl)
def whK (c : Ex) (b : St) (n : Nat) (r : SR) : SR := match r with
      | .nx ρ2 S2 => whR F F2 ρ2 c b n S2
      | r => r
def whC (ρ : Env) (c : Ex) (b : St) (n : Nat) (r : R PV) : SR := match r.bind asB with
    | .ok true S1 => whK (F := F) (F2 := F2) c b n (evS b F F2 ρ S1)
    | .ok false S1 => .nx ρ S1
    | .exc cc v S1 => .ex cc v ρ S1
    | _ => .bad
theorem wh_succ (c : Ex) (b : St) (n : Nat) : whR F F2 ρ c b (n + 1) S = whC (F := F) (F2 := F2) ρ c b n (ev c F F2 ρ S) := (rfl)
theorem wh_t (c : Ex) (b : St) (n : Nat) : whC (F := F) (F2 := F2) ρ c b n (.ok (.bl true) S) = whK (F := F) (F2 := F2) c b n (evS b F F2 ρ S) := (rfl)
theorem wh_f (c : Ex) (b : St) (n : Nat) : whC (F := F) (F2 := F2) ρ c b n (.ok (.bl false) S) = .nx ρ S := (rfl)
theorem wh_nx (c : Ex) (b : St) (n : Nat) (ρ1 : Env) : whK (F := F) (F2 := F2) c b n (.nx ρ1 S) = whR F F2 ρ1 c b n S := (rfl)
theorem wh_rt (c : Ex) (b : St) (n : Nat) (v : PV) : whK (F := F) (F2 := F2) c b n (.rt v S) = .rt v S := (rfl)
theorem tg_1 (i : Nat) (x : PV) : tgSet [i] x ρ = some (ρ.set i (some x)) := (rfl)
theorem tg_2 (i j : Nat) (x y : PV) : tgSet [i, j] (.tup [x, y]) ρ = some (setAll [i, j] [x, y] ρ) := (rfl)
theorem sa_nil : setAll [] [] ρ = ρ := (rfl)
theorem sa_cons (i : Nat) (is : List Nat) (x : PV) (xs : List PV) : setAll (i :: is) (x :: xs) ρ = setAll is xs (ρ.set i (some x)) := (rfl)
theorem we_nil : wipeE ρ [] = ρ := (rfl)
theorem we_cons (i : Nat) (is : List Nat) : wipeE ρ (i :: is) = (wipeE ρ is).set i none := (rfl)
end
theorem pv_int (i : Int) : Ct.pv (.int i) = .int i := (rfl)
theorem pv_str (i : List Nat) : Ct.pv (.str i) = .str i := (rfl)
theorem pv_bl (i : Bool) : Ct.pv (.bl i) = .bl i := (rfl)
theorem pv_non : Ct.pv .non = .non := (rfl)
/-- the run of one def -/
def fin (r : SR) : R PV := match r with
      | .nx _ S1 => .ok .non S1
      | .rt v S1 => .ok v S1
      | .ex c v _ S1 => .exc c v S1
      | .bad => .bad
theorem fin_rt (v : PV) (S : Store) : fin (.rt v S) = .ok v S := (rfl)
theorem fin_nx (v : Env) (S : Store) : fin (.nx v S) = .ok .non S := (rfl)
theorem fin_ex (c : Nat) (v : PV) (ρ : Env) (S : Store) : fin (.ex c v ρ S) = .exc c v S := (rfl)
theorem fin_mif (d : Bool) (r t : SR) : fin (mIf d r t) = mIte d (fin r) (fin t) := by cases d <;> rfl
theorem run_def {n g : Nat} {f : FI} {args : List PV} {S : Store} (h : P.lookup g = some f) (hl : args.length = f.ar) : run P (n + 1) g args S = fin (evS f.body (run P n) (run P (n - 2)) (args.map some ++ List.replicate (f.nl - f.ar) none) S) := by
  rw [run_succ]
  unfold step
  rw [h]
  simp only [if_pos hl]
  rfl
section
variable {F F2 : Orc} {ρ : Env} {S : Store} {elt cnd : Ex} {tg : List Nat}
theorem pvS_refl : ∀ x : PV, pvS x x = true := by
  intro x
  induction x using PV.rec (motive_2 := fun xs => pvSL xs xs = true) with
  | non => rfl
  | bl b => exact beq_self_eq_true b
  | int b => exact beq_self_eq_true b
  | str b => exact beq_self_eq_true b
  | tup xs ih => exact ih
  | lst xs ih => exact ih
  | ptr b => exact beq_self_eq_true b
  | scr b => exact beq_self_eq_true b
  | exn b => exact beq_self_eq_true b
  | nil => rfl
  | cons x xs h1 h2 => show (pvS x x && pvSL xs xs) = true; rw [h1, h2]; rfl
theorem pvSL_refl (xs : List PV) : pvSL xs xs = true := pvS_refl (.tup xs)
theorem gk_of {m : Nat} {xs : List PV} (h : S[m]? = some (.lst xs)) : gk (some (m, xs)) S = true := by
  show (match S[m]? with
    | some (MO.lst ys) => pvSL ys xs
    | _ => false) = true
  rw [h]
  exact pvSL_refl xs
theorem lc_gen {α : Type} {g : Option (Nat × List PV)} (hg : gk g S = true) (inj : α → PV) (p : α → Bool) (f : α → PV) : ∀ {xs : List α}, (∀ x ∈ xs, ∃ ρ1, tgSet tg (inj x) ρ = some ρ1 ∧ ev cnd F F2 ρ1 S = .ok (.bl (p x)) S ∧ (p x = true → ev elt F F2 ρ1 S = .ok (f x) S)) → lcGo (fun r s => ev cnd F F2 r s) (fun r s => ev elt F F2 r s) tg ρ g (xs.map inj) S = .ok ((xs.filter p).map f) S
  | [], _ => by
    rw [List.map_nil]
    unfold lcGo
    rw [if_pos hg]; rfl
  | x :: xs, h => by
    obtain ⟨ρ1, h1, h2, h3⟩ := h x (List.mem_cons_self)
    have ih := lc_gen hg inj p f (xs := xs) fun y hy => h y (List.mem_cons_of_mem _ hy)
    rw [List.map_cons]
    unfold lcGo
    rw [if_pos hg, h1]
    simp only [h2]
    cases hp : p x with
    | true =>
      simp only [h3 hp, R.bind, asB]
      rw [ih]
      simp only [List.filter_cons, hp, if_true, List.map_cons]
    | false =>
      simp only [R.bind, asB]
      rw [ih]
      simp only [List.filter_cons, hp, Bool.false_eq_true, if_false]
theorem lc_map {α : Type} (inj : α → PV) (p : α → Bool) (f : α → PV) {xs : List α} (h : ∀ x ∈ xs, ∃ ρ1, tgSet tg (inj x) ρ = some ρ1 ∧ ev cnd F F2 ρ1 S = .ok (.bl (p x)) S ∧ (p x = true → ev elt F F2 ρ1 S = .ok (f x) S)) : lcR F F2 ρ elt cnd tg (xs.map inj) S = .ok ((xs.filter p).map f) S := lc_gen (g := none) rfl inj p f h
theorem lc_mapq {α : Type} {m : Nat} (inj : α → PV) (p : α → Bool) (f : α → PV) {xs : List α} (hm : S[m]? = some (.lst (xs.map inj))) (h : ∀ x ∈ xs, ∃ ρ1, tgSet tg (inj x) ρ = some ρ1 ∧ ev cnd F F2 ρ1 S = .ok (.bl (p x)) S ∧ (p x = true → ev elt F F2 ρ1 S = .ok (f x) S)) : lcQ F F2 ρ elt cnd tg (m, xs.map inj) (xs.map inj) S = .ok ((xs.filter p).map f) S := lc_gen (gk_of hm) inj p f h
theorem lc_allq {α : Type} {m : Nat} (inj : α → PV) (f : α → PV) {xs : List α} (hm : S[m]? = some (.lst (xs.map inj))) (h : ∀ x ∈ xs, ∃ ρ1, tgSet tg (inj x) ρ = some ρ1 ∧ ev elt F F2 ρ1 S = .ok (f x) S) : lcQ F F2 ρ elt (.cst (.bl true)) tg (m, xs.map inj) (xs.map inj) S = .ok (xs.map f) S := by
  rw [lc_mapq inj (fun _ => true) f hm fun x hx => let ⟨ρ1, h1, h2⟩ := h x hx; ⟨ρ1, h1, rfl, fun _ => h2⟩, List.filter_eq_self.mpr fun _ _ => rfl]
/-- without a test -/
theorem lc_all {α : Type} (inj : α → PV) (f : α → PV) {xs : List α} (h : ∀ x ∈ xs, ∃ ρ1, tgSet tg (inj x) ρ = some ρ1 ∧ ev elt F F2 ρ1 S = .ok (f x) S) : lcR F F2 ρ elt (.cst (.bl true)) tg (xs.map inj) S = .ok (xs.map f) S := by
  rw [lc_map inj (fun _ => true) f fun x hx => let ⟨ρ1, h1, h2⟩ := h x hx; ⟨ρ1, h1, rfl, fun _ => h2⟩, List.filter_eq_self.mpr fun _ _ => rfl]
theorem lc2_map {α : Type} {it1 : Ex} {tg1 own1 : List Nat} (inj : α → PV) (f : α → List PV) : ∀ {xs : List α}, (∀ x ∈ xs, ∃ ρ1 ys, tgSet tg (inj x) ρ = some ρ1 ∧ evI it1 F F2 ρ1 S = .ok (W0 ys) S ∧ lcR F F2 (wipeE ρ1 own1) elt cnd tg1 ys S = .ok (f x) S) → lc2R F F2 ρ elt tg1 it1 cnd own1 tg (xs.map inj) S = .ok ((xs.map f).flatten) S
  | [], _ => rfl
  | x :: xs, h => by
    obtain ⟨ρ1, ys, h1, h2, h3⟩ := h x (List.mem_cons_self)
    have ih := lc2_map (it1 := it1) (tg1 := tg1) (own1 := own1) inj f (xs := xs) fun y hy => h y (List.mem_cons_of_mem _ hy)
    unfold lcR at h3
    unfold lc2R at ih ⊢
    rw [List.map_cons]
    unfold lc2Go
    rw [if_pos (show gk none S = true from rfl), h1]
    have e : lc2I F F2 elt tg1 it1 cnd own1 ρ1 S = .ok (f x) S := by
      unfold lc2I
      rw [h2]
      exact h3
    simp only [e, ih]
    rw [List.map_cons, List.flatten_cons]
end
end K
end G
set_option maxHeartbeats 1000000
namespace G
namespace K
open M L2
variable {n : Nat} {S : Store}
abbrev Wd := List Nat
theorem b_add_int (i j : Int) : b2 .add (.int i) (.int j) S = .ok (.int (i + j)) S := (rfl)
theorem b_add_str (a b : Wd) (h : a.length + b.length ≤ SL) : b2 .add (.str a) (.str b) S = .ok (.str (a ++ b)) S := if_pos h
theorem b_add_tup (a b : List PV) (h : a.length + b.length ≤ SL) : b2 .add (.tup a) (.tup b) S = .ok (.tup (a ++ b)) S := if_pos h
theorem b_add_lst (a b : List PV) (h : a.length + b.length ≤ SL) : b2 .add (.lst a) (.lst b) S = .ok (.lst (a ++ b)) S := if_pos h
theorem b_sub_int (i j : Int) : b2 .sub (.int i) (.int j) S = .ok (.int (i - j)) S := (rfl)
theorem b_mul_str (a : Wd) (k : Int) (h : a ≠ [] ∧ 2 ≤ k ∧ k ≤ 1000 ∧ a.length ≤ 1000) : b2 .mul (.str a) (.int k) S = .ok (.str (repL k.toNat a)) S := if_pos h
theorem b_mul_tup (a : List PV) (k : Int) (h : a.length ≠ 0 ∧ 0 ≤ k ∧ k ≤ 1000 ∧ a.length ≤ 1000) : b2 .mul (.tup a) (.int k) S = .ok (.tup (repL k.toNat a)) S := if_pos h
theorem b_mul_r (i j : Int) (h : -18446744073709551616 < j ∧ j < 18446744073709551616) : b2 .mul (.int i) (.int j) S = .ok (.int (i * j)) S := if_pos (.inr h)
theorem b_mul_l (i j : Int) (h : -18446744073709551616 < i ∧ i < 18446744073709551616) : b2 .mul (.int i) (.int j) S = .ok (.int (i * j)) S := if_pos (.inl h)
theorem b_fdiv_int (i j : Int) (h : 0 < j ∧ j < 1073741824) : b2 .fdiv (.int i) (.int j) S = .ok (.int (i / j)) S := if_pos h
theorem b_mod_int (i j : Int) (h : 0 < j) : b2 .mod (.int i) (.int j) S = .ok (.int (i % j)) S := if_pos h
theorem b_eq_int (i j : Int) : b2 .eq (.int i) (.int j) S = .ok (.bl (decide (i = j))) S := by
  show R.ok (PV.bl (i == j)) S = _
  rw [Bool.beq_eq_decide_eq]
theorem b_ne_int (i j : Int) : b2 .ne (.int i) (.int j) S = .ok (.bl (!decide (i = j))) S := by
  show R.ok (PV.bl (!(i == j))) S = _
  rw [Bool.beq_eq_decide_eq]
theorem b_eq_str (i j : Wd) : b2 .eq (.str i) (.str j) S = .ok (.bl (decide (i = j))) S := by
  show R.ok (PV.bl (i == j)) S = _
  rw [Bool.beq_eq_decide_eq]
theorem b_ne_str (i j : Wd) : b2 .ne (.str i) (.str j) S = .ok (.bl (!decide (i = j))) S := by
  show R.ok (PV.bl (!(i == j))) S = _
  rw [Bool.beq_eq_decide_eq]
theorem b_lt_int (i j : Int) : b2 .lt (.int i) (.int j) S = .ok (.bl (decide (i < j))) S := (rfl)
theorem b_lt_str (i j : Wd) : b2 .lt (.str i) (.str j) S = .ok (.bl (decide (i < j))) S := (rfl)
theorem b_le_int (i j : Int) : b2 .le (.int i) (.int j) S = .ok (.bl (decide (i ≤ j))) S := (rfl)
theorem b_gt_int (i j : Int) : b2 .gt (.int i) (.int j) S = .ok (.bl (decide (j < i))) S := (rfl)
theorem b_ge_int (i j : Int) : b2 .ge (.int i) (.int j) S = .ok (.bl (decide (j ≤ i))) S := (rfl)
theorem b_ge_str (i j : Wd) : b2 .ge (.str i) (.str j) S = .ok (.bl (!decide (i < j))) S := (rfl)
theorem b_is_nn : b2 .is .non .non S = .ok (.bl true) S := (rfl)
theorem b_is_bn (b : Bool) : b2 .is (.bl b) .non S = .ok (.bl false) S := (rfl)
theorem b_is_in (b : Int) : b2 .is (.int b) .non S = .ok (.bl false) S := (rfl)
theorem b_is_sn (b : Wd) : b2 .is (.str b) .non S = .ok (.bl false) S := (rfl)
theorem b_is_tn (b : List PV) : b2 .is (.tup b) .non S = .ok (.bl false) S := (rfl)
theorem b_is_ln (b : List PV) : b2 .is (.lst b) .non S = .ok (.bl false) S := (rfl)
theorem b_is_bb (a b : Bool) : b2 .is (.bl a) (.bl b) S = .ok (.bl (a == b)) S := (rfl)
theorem b_is_nb (b : Bool) : b2 .is .non (.bl b) S = .ok (.bl false) S := (rfl)
theorem b_is_tb (a : List PV) (b : Bool) : b2 .is (.tup a) (.bl b) S = .ok (.bl false) S := (rfl)
theorem b_isn_nn : b2 .isnot .non .non S = .ok (.bl false) S := (rfl)
theorem b_isn_bn (b : Bool) : b2 .isnot (.bl b) .non S = .ok (.bl true) S := (rfl)
theorem b_isn_sn (b : Wd) : b2 .isnot (.str b) .non S = .ok (.bl true) S := (rfl)
theorem b_isn_tn (b : List PV) : b2 .isnot (.tup b) .non S = .ok (.bl true) S := (rfl)
theorem b_isn_ln (b : List PV) : b2 .isnot (.lst b) .non S = .ok (.bl true) S := (rfl)
theorem b_isn_in (b : Int) : b2 .isnot (.int b) .non S = .ok (.bl true) S := (rfl)
theorem b_inn_sign (c : Nat) (b : Wd) : b2 .inn (.str [c]) (.str b) S = .ok (.bl (b.contains c)) S := (rfl)
theorem b_notin_sign (c : Nat) (b : Wd) : b2 .notin (.str [c]) (.str b) S = .ok (.bl (!b.contains c)) S := (rfl)
theorem depL_strs : ∀ ss : List Wd, depL (ss.map .str) = some 0
  | [] => rfl
  | s :: ss => by
    show (match dep (.str s), depL (ss.map .str) with
    | some a, some b => some (max a b)
    | _, _ => none) = some 0
    rw [depL_strs ss]
    rfl
theorem dep_tupS (ss : List Wd) : dep (.tup (ss.map .str)) = some 1 := by
  show (depL (ss.map .str)).map (· + 1) = some 1
  rw [depL_strs]; rfl
theorem dep_lstS (ss : List Wd) : dep (.lst (ss.map .str)) = some 1 := by
  show (depL (ss.map .str)).map (· + 1) = some 1
  rw [depL_strs]; rfl
theorem eqOk_of {x y : PV} {i j : Nat} (h1 : dep x = some i) (h2 : dep y = some j) (h : min i j ≤ 40) : eqOk x y = true := by
  unfold eqOk
  rw [h1, h2]
  exact decide_eq_true h
theorem any_strs (s : Wd) : ∀ ss : List Wd, ((ss.map .str).any fun y => pveq y (.str s)) = ss.contains s
  | [] => rfl
  | t :: ss => by
    rw [List.map_cons, List.any_cons, any_strs s ss, List.contains_cons]
    show ((t == s) || _) = _
    rw [show (t == s) = (s == t) from by rw [Bool.beq_eq_decide_eq, Bool.beq_eq_decide_eq]; simp only [eq_comm]]
theorem b_inn_tupS (a : Wd) (ss : List Wd) : b2 .inn (.str a) (.tup (ss.map .str)) S = .ok (.bl (ss.contains a)) S := by
  show (if eqOk (.tup (ss.map .str)) (.str a) then rok (.bl ((ss.map .str).any fun y => pveq y (.str a))) S else .bad) = _
  rw [if_pos (eqOk_of (dep_tupS ss) rfl (by decide)), any_strs]; rfl
theorem b_notin_tupS (a : Wd) (ss : List Wd) : b2 .notin (.str a) (.tup (ss.map .str)) S = .ok (.bl (!ss.contains a)) S := by
  show (if eqOk (.tup (ss.map .str)) (.str a) then rok (.bl (!(ss.map .str).any fun y => pveq y (.str a))) S else .bad) = _
  rw [if_pos (eqOk_of (dep_tupS ss) rfl (by decide)), any_strs]; rfl
theorem b_inn_lstS (a : Wd) (ss : List Wd) : b2 .inn (.str a) (.lst (ss.map .str)) S = .ok (.bl (ss.contains a)) S := by
  show (if eqOk (.lst (ss.map .str)) (.str a) then rok (.bl ((ss.map .str).any fun y => pveq y (.str a))) S else .bad) = _
  rw [if_pos (eqOk_of (dep_lstS ss) rfl (by decide)), any_strs]; rfl
theorem pveqL_strs : ∀ (a b : List Wd), pveqL (a.map .str) (b.map .str) = decide (a = b)
  | [], [] => rfl
  | [], _ :: _ => rfl
  | _ :: _, [] => rfl
  | x :: a, y :: b => by
    show ((x == y) && pveqL (a.map .str) (b.map .str)) = _
    rw [pveqL_strs a b, Bool.beq_eq_decide_eq, ← Bool.decide_and]
    simp only [List.cons.injEq]
theorem b_eq_tupS (a b : List Wd) : b2 .eq (.tup (a.map .str)) (.tup (b.map .str)) S = .ok (.bl (decide (a = b))) S := by
  show (if eqOk (.tup (a.map .str)) (.tup (b.map .str)) then rok (.bl (pveqL (a.map .str) (b.map .str))) S else .bad) = _
  rw [if_pos (eqOk_of (dep_tupS a) (dep_tupS b) (by decide)), pveqL_strs]; rfl
theorem b_eq_lstS (a b : List Wd) : b2 .eq (.lst (a.map .str)) (.lst (b.map .str)) S = .ok (.bl (decide (a = b))) S := by
  show (if eqOk (.lst (a.map .str)) (.lst (b.map .str)) then rok (.bl (pveqL (a.map .str) (b.map .str))) S else .bad) = _
  rw [if_pos (eqOk_of (dep_lstS a) (dep_lstS b) (by decide)), pveqL_strs]; rfl
theorem b_ne_tupS (a b : List Wd) : b2 .ne (.tup (a.map .str)) (.tup (b.map .str)) S = .ok (.bl (!decide (a = b))) S := by
  show (if eqOk (.tup (a.map .str)) (.tup (b.map .str)) then rok (.bl (!pveqL (a.map .str) (b.map .str))) S else .bad) = _
  rw [if_pos (eqOk_of (dep_tupS a) (dep_tupS b) (by decide)), pveqL_strs]; rfl
theorem b_ne_lstS (a b : List Wd) : b2 .ne (.lst (a.map .str)) (.lst (b.map .str)) S = .ok (.bl (!decide (a = b))) S := by
  show (if eqOk (.lst (a.map .str)) (.lst (b.map .str)) then rok (.bl (!pveqL (a.map .str) (b.map .str))) S else .bad) = _
  rw [if_pos (eqOk_of (dep_lstS a) (dep_lstS b) (by decide)), pveqL_strs]; rfl
/-- data of bounded depth -/
def Dt (d : Nat) (x : PV) : Prop := ∃ i, dep x = some i ∧ i ≤ d
theorem Dt.mono {d e : Nat} {x : PV} (h : Dt d x) (l : d ≤ e) : Dt e x := let ⟨i, h1, h2⟩ := h; ⟨i, h1, Nat.le_trans h2 l⟩
theorem Dt.depL {d : Nat} : ∀ {xs : List PV}, (∀ x ∈ xs, Dt d x) → ∃ i, depL xs = some i ∧ i ≤ d
  | [], _ => ⟨0, rfl, Nat.zero_le _⟩
  | x :: xs, h => by
    obtain ⟨i, h1, h2⟩ := h x (List.mem_cons_self)
    obtain ⟨j, h3, h4⟩ := Dt.depL (xs := xs) fun y hy => h y (List.mem_cons_of_mem _ hy)
    refine ⟨max i j, ?_, Nat.max_le.mpr ⟨h2, h4⟩⟩
    show (match dep x, G.depL xs with
    | some a, some b => some (max a b)
    | _, _ => none) = _
    rw [h1, h3]
theorem Dt.lst {d : Nat} {xs : List PV} (h : ∀ x ∈ xs, Dt d x) : Dt (d + 1) (.lst xs) := by
  obtain ⟨i, h1, h2⟩ := Dt.depL h
  exact ⟨i + 1, by show (G.depL xs).map (· + 1) = _; rw [h1]; rfl, Nat.succ_le_succ h2⟩
theorem Dt.tup {d : Nat} {xs : List PV} (h : ∀ x ∈ xs, Dt d x) : Dt (d + 1) (.tup xs) := by
  obtain ⟨i, h1, h2⟩ := Dt.depL h
  exact ⟨i + 1, by show (G.depL xs).map (· + 1) = _; rw [h1]; rfl, Nat.succ_le_succ h2⟩
theorem Dt.str (s : Wd) : Dt 0 (.str s) := ⟨0, rfl, Nat.le_refl _⟩
theorem Dt.int (s : Int) : Dt 0 (.int s) := ⟨0, rfl, Nat.le_refl _⟩
theorem Dt.non : Dt 0 .non := ⟨0, rfl, Nat.le_refl _⟩
theorem Dt.bl (s : Bool) : Dt 0 (.bl s) := ⟨0, rfl, Nat.le_refl _⟩
theorem Dt.tupS (s : List Wd) : Dt 1 (.tup (s.map .str)) := ⟨1, dep_tupS s, Nat.le_refl _⟩
theorem Dt.ok {d e : Nat} {x y : PV} (h : Dt d x) (h' : Dt e y) (l : min d e ≤ 40) : eqOk x y = true := by
  obtain ⟨i, h1, h2⟩ := h
  obtain ⟨j, h3, h4⟩ := h'
  exact eqOk_of h1 h3 (by omega)
theorem pveqL_nil (xs : List PV) : pveqL xs [] = xs.isEmpty := by cases xs <;> rfl
theorem b_eq_nil {d : Nat} {xs : List PV} (h : ∀ x ∈ xs, Dt d x) : b2 .eq (.lst xs) (.lst []) S = .ok (.bl xs.isEmpty) S := by
  show (if eqOk (.lst xs) (.lst []) then rok (.bl (pveqL xs [])) S else .bad) = _
  rw [if_pos ((Dt.lst h).ok (Dt.lst (d := 0) (xs := []) (by simp)) (by omega)), pveqL_nil]; rfl
theorem b_ne_nil {d : Nat} {xs : List PV} (h : ∀ x ∈ xs, Dt d x) : b2 .ne (.lst xs) (.lst []) S = .ok (.bl (!xs.isEmpty)) S := by
  show (if eqOk (.lst xs) (.lst []) then rok (.bl (!pveqL xs [])) S else .bad) = _
  rw [if_pos ((Dt.lst h).ok (Dt.lst (d := 0) (xs := []) (by simp)) (by omega)), pveqL_nil]; rfl
theorem b_ne_nn : b2 .ne (.lst []) (.lst []) S = .ok (.bl false) S := (rfl)
theorem b_eq_nn : b2 .eq (.lst []) (.lst []) S = .ok (.bl true) S := (rfl)
theorem b_eq_nilS (xs : List Wd) : b2 .eq (.lst (xs.map .str)) (.lst []) S = .ok (.bl xs.isEmpty) S := by
  rw [b_eq_nil (d := 0) (fun x hx => by obtain ⟨s, _, rfl⟩ := List.mem_map.mp hx; exact Dt.str s), List.isEmpty_map]
theorem b_ne_nilS (xs : List Wd) : b2 .ne (.lst (xs.map .str)) (.lst []) S = .ok (.bl (!xs.isEmpty)) S := by
  rw [b_ne_nil (d := 0) (fun x hx => by obtain ⟨s, _, rfl⟩ := List.mem_map.mp hx; exact Dt.str s), List.isEmpty_map]
theorem empty_filter {α : Type} (p : α → Bool) : ∀ xs : List α, (xs.filter p).isEmpty = xs.all fun x => !p x
  | [] => rfl
  | x :: xs => by
    rw [List.filter_cons, List.all_cons, ← empty_filter p xs]
    cases p x <;> simp
/-- x[i] -/
theorem at0 {α : Type} (x : α) (xs : List α) : atI (x :: xs) 0 = some x := by simp [atI, ixN]
theorem at1 {α : Type} (x y : α) (xs : List α) : atI (x :: y :: xs) 1 = some y := by
  have : (1 : Int) < ((xs.length : Int) + 1 + 1) := by omega
  simp [atI, ixN, this]
theorem at2 {α : Type} (x y z : α) (xs : List α) : atI (x :: y :: z :: xs) 2 = some z := by
  have : (2 : Int) < ((xs.length : Int) + 1 + 1 + 1) := by omega
  simp [atI, ixN, this]
theorem at_nat {α : Type} (xs : List α) (k : Nat) : atI xs ((k : Nat) : Int) = xs[k]? := by
  unfold atI ixN
  rw [if_pos (Int.natCast_nonneg k)]
  by_cases h : k < xs.length
  · rw [if_pos (by omega)]; simp
  · rw [if_neg (by omega)]; simp; omega
theorem b_idx_tup (xs : List PV) (i : Int) (v : PV) (h : atI xs i = some v) : b2 .idx (.tup xs) (.int i) S = .ok v S := by
  show (match atI xs i with | some v => rok v S | none => .bad) = _
  rw [h]; rfl
theorem b_idx_lst (xs : List PV) (i : Int) (v : PV) (h : atI xs i = some v) : b2 .idx (.lst xs) (.int i) S = .ok v S := by
  show (match atI xs i with | some v => rok v S | none => .bad) = _
  rw [h]; rfl
theorem b_idx_t0 (x : PV) (xs : List PV) : b2 .idx (.tup (x :: xs)) (.int 0) S = .ok x S := b_idx_tup _ _ _ (at0 _ _)
theorem b_idx_t1 (x y : PV) (xs : List PV) : b2 .idx (.tup (x :: y :: xs)) (.int 1) S = .ok y S := b_idx_tup _ _ _ (at1 _ _ _)
theorem b_idx_t2 (x y z : PV) (xs : List PV) : b2 .idx (.tup (x :: y :: z :: xs)) (.int 2) S = .ok z S := b_idx_tup _ _ _ (at2 _ _ _ _)
theorem b_idx_l0 (x : PV) (xs : List PV) : b2 .idx (.lst (x :: xs)) (.int 0) S = .ok x S := b_idx_lst _ _ _ (at0 _ _)
theorem b_idx_s0 (x : Nat) (xs : List Nat) : b2 .idx (.str (x :: xs)) (.int 0) S = .ok (.str [x]) S := by
  show (match atI (x :: xs) 0 with | some v => rok (.str [v]) S | none => .bad) = _
  rw [at0]; rfl
theorem p_neg (i : Int) : pri .neg [.int i] S = .ok (.int (-i)) S := (rfl)
theorem p_isi_str (k : Kd) (s : Wd) : pri (.isi k) [.str s] S = .ok (.bl (k == .str)) S := (rfl)
theorem p_isi_int (k : Kd) (s : Int) : pri (.isi k) [.int s] S = .ok (.bl (k == .int)) S := (rfl)
theorem p_isi_bl (k : Kd) (s : Bool) : pri (.isi k) [.bl s] S = .ok (.bl (k == .bool || k == .int)) S := (rfl)
theorem p_isi_tup (k : Kd) (s : List PV) : pri (.isi k) [.tup s] S = .ok (.bl (k == .tuple)) S := (rfl)
theorem p_isi_lst (k : Kd) (s : List PV) : pri (.isi k) [.lst s] S = .ok (.bl (k == .list)) S := (rfl)
theorem p_isi_non (k : Kd) : pri (.isi k) [.non] S = .ok (.bl false) S := (rfl)
theorem p_len_tup (xs : List PV) : pri .len [.tup xs] S = .ok (.int xs.length) S := (rfl)
theorem p_len_lst (xs : List PV) : pri .len [.lst xs] S = .ok (.int xs.length) S := (rfl)
theorem p_len_str (xs : Wd) : pri .len [.str xs] S = .ok (.int xs.length) S := (rfl)
theorem p_len_scr (xs : List Int) : pri .len [.scr xs] S = .ok (.int xs.length) S := (rfl)
theorem p_int (i : Int) : pri .int [.int i] S = .ok (.int i) S := (rfl)
theorem p_abs (i : Int) : pri .abs [.int i] S = .ok (.int (if i < 0 then -i else i)) S := (rfl)
theorem p_max2 (i j : Int) : pri .max2 [.int i, .int j] S = .ok (.int (if j > i then j else i)) S := (rfl)
theorem p_min2 (i j : Int) : pri .min2 [.int i, .int j] S = .ok (.int (if j < i then j else i)) S := (rfl)
theorem p_list_tup (xs : List PV) : pri .list [.tup xs] S = .ok (.lst xs) S := (rfl)
theorem p_list_lst (xs : List PV) : pri .list [.lst xs] S = .ok (.lst xs) S := (rfl)
theorem p_list_str (xs : Wd) (h : xs.length ≤ 8) : pri .list [.str xs] S = .ok (.lst (xs.map fun c => .str [c])) S := if_pos h
theorem p_tuple_tup (xs : List PV) : pri .tuple [.tup xs] S = .ok (.tup xs) S := (rfl)
theorem p_tuple_lst (xs : List PV) : pri .tuple [.lst xs] S = .ok (.tup xs) S := (rfl)
theorem allS_strs : ∀ ss : List Wd, allS (ss.map .str) = some ss
  | [] => rfl
  | s :: ss => by
    show (allS (ss.map .str)).map (s :: ·) = _
    rw [allS_strs ss]; rfl
theorem p_sorted_tupS (ss : List Wd) (h : ss.length < 64) : pri .sorted [.tup (ss.map .str)] S = .ok (.lst ((sortS ss).map .str)) S := by
  show (match allS (ss.map .str) with | some ss => if ss.length < 64 then rok (.lst ((sortS ss).map .str)) S else .bad | none => match allI (ss.map .str) with | some is => if is.length ≤ 1000 then rok (.lst ((sortL is).map .int)) S else .bad | none => .bad) = _
  rw [allS_strs]
  exact if_pos h
theorem p_sorted_lstS (ss : List Wd) (h : ss.length < 64) : pri .sorted [.lst (ss.map .str)] S = .ok (.lst ((sortS ss).map .str)) S := by
  show (match allS (ss.map .str) with | some ss => if ss.length < 64 then rok (.lst ((sortS ss).map .str)) S else .bad | none => if sortOk (ss.map .str) then rok (.lst (psort (ss.map .str))) S else .bad) = _
  rw [allS_strs]
  exact if_pos h
theorem p_index_tupS (ss : List Wd) (z : Wd) (h : z ∈ ss) : pri .index [.tup (ss.map .str), .str z] S = .ok (.int (ss.idxOf z)) S := by
  show (match allS (ss.map .str) with | some ss => if z ∈ ss then rok (.int (ss.idxOf z)) S else .bad | none => .bad) = _
  rw [allS_strs]
  exact if_pos h
theorem p_dget {n : Nat} {kvs : List (List Nat × PV)} {a : List Nat} {d : PV} (h : S[n]? = some (.dis kvs)) : pri .dget [.ptr n, .str a, d] S = .ok ((kvs.lookup a).getD d) S := by
  show (match S[n]? with
    | some (MO.dis kvs) => rok ((kvs.lookup a).getD d) S
    | _ => .bad) = _
  rw [h]; rfl
theorem rc_index (xs : List PV) : recv .index S (.tup xs) = true := (rfl)
theorem rc_split (n : Wd) : recv .split S (.str n) = true := (rfl)
theorem rc_join (n : Wd) : recv .join S (.str n) = true := (rfl)
theorem c_tup (xs : List PV) (lo hi : Option Int) : slc false (.tup xs) lo hi S = .ok (.tup (cutL xs lo hi)) S := (rfl)
theorem c_lst (xs : List PV) (lo hi : Option Int) : slc false (.lst xs) lo hi S = .ok (.lst (cutL xs lo hi)) S := (rfl)
theorem c_str (xs : Wd) (lo hi : Option Int) : slc false (.str xs) lo hi S = .ok (.str (cutL xs lo hi)) S := (rfl)
theorem cut_take {α : Type} (xs : List α) (k : Nat) : cutL xs none (some (k : Int)) = xs.take k := by
  unfold cutL
  rw [HT.sIx_none, HT.sIx_nat, List.drop_zero, Nat.sub_zero]
  rcases Nat.le_total k xs.length with h | h
  · rw [Nat.min_eq_left h]
  · rw [Nat.min_eq_right h, List.take_of_length_le h, List.take_of_length_le (Nat.le_refl _)]
theorem cut_drop {α : Type} (xs : List α) (k : Nat) : cutL xs (some (k : Int)) none = xs.drop k := by
  unfold cutL
  rw [HT.sIx_none, HT.sIx_nat]
  rcases Nat.le_total k xs.length with h | h
  · rw [Nat.min_eq_left h, List.take_of_length_le (by rw [List.length_drop]; exact Nat.le_refl _)]
  · rw [Nat.min_eq_right h, List.drop_of_length_le h, List.drop_of_length_le (Nat.le_refl _), List.take_nil]
theorem cut_mid {α : Type} (xs : List α) (i j : Nat) : cutL xs (some (i : Int)) (some (j : Int)) = (xs.drop i).take (j - i) := by
  unfold cutL
  rw [HT.sIx_nat, HT.sIx_nat]
  rcases Nat.le_total i xs.length with h | h
  · rw [Nat.min_eq_left h]
    rcases Nat.le_total j xs.length with h2 | h2
    · rw [Nat.min_eq_left h2]
    · rw [Nat.min_eq_right h2, List.take_of_length_le (by rw [List.length_drop]; exact Nat.le_refl _), List.take_of_length_le (by rw [List.length_drop]; omega)]
  · rw [Nat.min_eq_right h, List.drop_of_length_le h, List.drop_of_length_le (Nat.le_refl _), List.take_nil, List.take_nil]
theorem cut_map {α β : Type} (f : α → β) (xs : List α) (lo hi : Option Int) : cutL (xs.map f) lo hi = (cutL xs lo hi).map f := by
  unfold cutL
  rw [List.length_map, List.map_take, List.map_drop]
theorem k_ss : ((Kd.str) == (Kd.str)) = true := (rfl)
theorem k_si : ((Kd.str) == (Kd.int)) = false := (rfl)
theorem k_sb : ((Kd.str) == (Kd.bool)) = false := (rfl)
theorem k_st : ((Kd.str) == (Kd.tuple)) = false := (rfl)
theorem k_sl : ((Kd.str) == (Kd.list)) = false := (rfl)
theorem k_is : ((Kd.int) == (Kd.str)) = false := (rfl)
theorem k_ii : ((Kd.int) == (Kd.int)) = true := (rfl)
theorem k_ib : ((Kd.int) == (Kd.bool)) = false := (rfl)
theorem k_it : ((Kd.int) == (Kd.tuple)) = false := (rfl)
theorem k_il : ((Kd.int) == (Kd.list)) = false := (rfl)
theorem k_bs : ((Kd.bool) == (Kd.str)) = false := (rfl)
theorem k_bi : ((Kd.bool) == (Kd.int)) = false := (rfl)
theorem k_bb : ((Kd.bool) == (Kd.bool)) = true := (rfl)
theorem k_bt : ((Kd.bool) == (Kd.tuple)) = false := (rfl)
theorem k_bl : ((Kd.bool) == (Kd.list)) = false := (rfl)
theorem k_ts : ((Kd.tuple) == (Kd.str)) = false := (rfl)
theorem k_ti : ((Kd.tuple) == (Kd.int)) = false := (rfl)
theorem k_tb : ((Kd.tuple) == (Kd.bool)) = false := (rfl)
theorem k_tt : ((Kd.tuple) == (Kd.tuple)) = true := (rfl)
theorem k_tl : ((Kd.tuple) == (Kd.list)) = false := (rfl)
theorem k_ls : ((Kd.list) == (Kd.str)) = false := (rfl)
theorem k_li : ((Kd.list) == (Kd.int)) = false := (rfl)
theorem k_lb : ((Kd.list) == (Kd.bool)) = false := (rfl)
theorem k_lt : ((Kd.list) == (Kd.tuple)) = false := (rfl)
theorem k_ll : ((Kd.list) == (Kd.list)) = true := (rfl)
end K
end G
set_option maxHeartbeats 1000000
set_option hygiene false in
local macro_rules | `(tactic| simp? only [$ts,*] $[$l]?) => `(tactic| simp only [e_dsp, k_d1, k_d2, k_d3, k_d4, k_m1g, s_st2, q_u1, q_u2, q_u5, e_cst, e_var, k_var, e_not, e_and, e_or, e_ite, e_bin, e_chn, e_tup, e_lst, e_mut, e_pri, e_mth, e_cal, e_lam, e_slc, e_com, e_co2, a_nil, a_cons, o_nil, o_cons, i_rng, i_seq, i_zip, i_enu, s_nop, s_seq, s_asg, s_par, s_unp, s_sti, s_exp, s_ret, s_ifs, s_whl, s_for, s_fol, s_rse, mAnd_t, mAnd_f, mAnd_ok, mOr_t, mOr_f, mOr_ok, mIte_t, mIte_f, k_not, k_and, k_or, k_ite, k_b2, k_b1, k_c4, k_c3, k_c2, k_c1, k_tup, k_lst, k_mut, k_pri, k_m2, k_m1i, k_m1r, k_m1a, k_m1s, k_m1j, k_cal, k_lamk, k_lamx, k_s3, k_s2, k_s1, k_com, k_comq, k_l, k_co2, k_l2, k_a2, k_a1, k_o, k_seq_t, k_seq_l, k_seq_s, k_z2_t, k_z2_l, k_z1, k_enu, q_nx, q_rt, q_ex, q_asg, q_par, q_unp, q_t2, q_t1, q_exp, q_expx, q_ret, q_retx, q_asgx, q_if_t, q_if_f, q_if, mIf_t, mIf_f, q_mif, mIf_rt, mIte_ok, fin_mif, q_for, q_forq, q_fol, tg_1, tg_2, sa_nil, sa_cons, we_nil, we_cons, pv_int, pv_str, pv_bl, pv_non, List.getElem?_cons_zero, List.getElem?_cons_succ, List.set_cons_zero, List.set_cons_succ, List.length_cons, List.length_nil, fin_rt, fin_nx, fin_ex, List.map_cons, List.map_nil, List.replicate_succ, List.replicate_zero, List.cons_append, List.nil_append, Nat.reduceAdd, Nat.reduceSub, Nat.reduceLeDiff, if_true, if_false, Bool.not_true, Bool.not_false, Bool.true_and, Bool.and_true, Bool.false_and, Bool.and_false, Bool.true_or, Bool.or_true, Bool.false_or, Bool.or_false, Bool.not_not, decide_true, decide_false, Bool.false_eq_true, b_add_int, b_sub_int, b_eq_int, b_ne_int, b_eq_str, b_ne_str, b_lt_int, b_lt_str, b_le_int, b_gt_int, b_ge_int, b_ge_str, b_is_nn, b_is_bn, b_is_in, b_is_sn, b_is_tn, b_is_ln, b_is_bb, b_is_nb, b_is_tb, b_isn_nn, b_isn_bn, b_isn_sn, b_isn_tn, b_isn_ln, b_isn_in, b_inn_sign, b_notin_sign, b_inn_tupS, b_notin_tupS, b_inn_lstS, b_eq_tupS, b_eq_lstS, b_ne_tupS, b_ne_lstS, b_eq_nilS, b_ne_nilS, b_ne_nn, b_eq_nn, b_idx_t0, b_idx_t1, b_idx_t2, b_idx_l0, b_idx_s0, p_neg, p_isi_str, p_isi_int, p_isi_bl, p_isi_tup, p_isi_lst, p_isi_non, p_len_tup, p_len_lst, p_len_str, p_len_scr, p_int, p_abs, p_max2, p_min2, p_list_tup, p_list_lst, p_tuple_tup, p_tuple_lst, c_tup, c_lst, c_str, k_ss, k_si, k_sb, k_st, k_sl, k_ii, k_is, k_ib, k_it, k_il, k_bs, k_bi, k_bb, k_bt, k_bl, k_ts, k_ti, k_tb, k_tt, k_tl, k_ls, k_li, k_lb, k_lt, k_ll, $ts,*] $[$l]?)
namespace G
namespace K
open M L2
variable {n : Nat} {S : Store}
structure Mn where
  many : Nat
  pairs : List Wd
  last : Wd
abbrev tS (ws : List Wd) : PV := .tup (ws.map .str)
abbrev lS (ws : List Wd) : PV := .lst (ws.map .str)
def mP (m : Mn) : PV := .tup [.int m.many, tS m.pairs, .str m.last]
def lets (k : Nat) : Wd := [97, 98, 99, 100, 101].take k
def isOf (l w : Wd) (a b : Int) : Bool := decide (a ≤ (w.length : Int)) && decide ((w.length : Int) ≤ b) && w.all fun c => l.contains c
theorem r_is_whole (i a b : Int) : run P (n + 1) 0 [.int i, .int a, .int b] S = .ok (.bl (decide (a ≤ i) && decide (i ≤ b))) S := by
  rw [run_def l0 rfl]
  simp? only [f0]
theorem r_is_of (l w : Wd) (a b : Int) : run P (n + 1) 1 [.str l, .str w, .int a, .int b] S = .ok (.bl (isOf l w a b)) S := by
  rw [run_def l1 rfl]
  simp? only [f1]
  rw [lc_map (fun c : Nat => PV.str [c]) (fun c => !l.contains c) (fun c => .str [c]) (fun c hc => ⟨_, rfl, by simp? only [], fun _ => by simp? only []⟩)]
  have e : ∀ ws : Wd, (ws.map fun c => PV.str [c]) = (ws.map fun c => [c]).map PV.str := fun ws => by rw [List.map_map]; rfl
  rw [e]
  simp? only []
  unfold isOf
  by_cases h1 : a ≤ (w.length : Int) <;> by_cases h2 : (w.length : Int) ≤ b <;> simp [h1, h2, empty_filter]
/-- no text -/
def noStr : PV → Prop
  | .str _ => False
  | .exn _ => False
  | .ptr _ => False
  | .scr _ => False
  | _ => True
theorem r_is_of_no (l : PV) (v a b : PV) (h : noStr v) : run P (n + 1) 1 [l, v, a, b] S = .ok (.bl false) S := by
  rw [run_def l1 rfl]
  cases v <;> first | exact h.elim | (simp? only [f1])
/-- a manner -/
structure Mn.Ok (m : Mn) : Prop where
  lo : 2 ≤ m.many
  hi : m.many ≤ 5
  six : m.many + m.pairs.length ≤ 6
  two : ∀ p ∈ m.pairs, isOf (lets m.many) p 2 2 = true
  asc : ∀ i, i + 1 < m.pairs.length → m.pairs[i]! < m.pairs[i + 1]!
  lst : isOf (lets m.many) m.last 0 1 = true
theorem lets_cut (k : Nat) : cutL [97, 98, 99, 100, 101] none (some (k : Int)) = lets k := cut_take _ _
theorem isOf_nil (l : Wd) : isOf l [] 0 1 = true := rfl
theorem rangeP_map (k : Nat) : rangeP (k : Int) = (List.range k).map fun i => PV.int (i : Nat) := by
  unfold rangeP
  rw [Int.toNat_natCast]
theorem rangeP_pred (k : Nat) : rangeP ((k : Int) - 1) = (List.range (k - 1)).map fun i => PV.int (i : Nat) := by
  unfold rangeP
  congr 2
  omega
theorem k_rng_n (k : Nat) (h : k < 1000000) : kRng (.ok (.int (k : Int)) S) = .ok (W0 ((List.range k).map fun i => PV.int (i : Nat))) S := by
  rw [k_rng _ (by omega), rangeP_map]
theorem k_rng_p (k : Nat) (h : k < 1000000) : kRng (.ok (.int ((k : Int) - 1)) S) = .ok (W0 ((List.range (k - 1)).map fun i => PV.int (i : Nat))) S := by
  rw [k_rng _ (by omega), rangeP_pred]
theorem idx_nat (xs : List PV) (k : Nat) (v : PV) (h : xs[k]? = some v) : b2 .idx (.tup xs) (.int (k : Int)) S = .ok v S := b_idx_tup _ _ _ (by rw [at_nat]; exact h)
theorem idxl_nat (xs : List PV) (k : Nat) (v : PV) (h : xs[k]? = some v) : b2 .idx (.lst xs) (.int (k : Int)) S = .ok v S := b_idx_lst _ _ _ (by rw [at_nat]; exact h)
theorem idx_tS (ws : List Wd) (k : Nat) (h : k < ws.length) : b2 .idx (tS ws) (.int (k : Int)) S = .ok (.str ws[k]!) S := idx_nat _ _ _ (by rw [List.getElem?_map, List.getElem?_eq_getElem h]; simp [h])
theorem idx_tS1 (ws : List Wd) (k : Nat) (h : k + 1 < ws.length) : b2 .idx (tS ws) (.int ((k : Int) + 1)) S = .ok (.str ws[k + 1]!) S := idx_tS ws (k + 1) h
theorem wlt_irrefl (a : Wd) : ¬ a < a := List.lt_irrefl a
theorem map_filter_nil {α : Type} (p : α → Bool) (xs : List α) (h : ∀ x ∈ xs, p x = false) : xs.filter p = [] := by
  rw [List.filter_eq_nil_iff]
  intro x hx
  rw [h x hx]
  exact Bool.false_ne_true
theorem map_eq_nil_str : ([] : List PV) = ([] : List Wd).map PV.str := rfl
theorem r_is_manner {m : Mn} (h : m.Ok) : run P (n + 2) 2 [mP m] S = .ok (.bl true) S := by
  rw [run_def l2 rfl]
  obtain ⟨k, ps, ls⟩ := m
  obtain ⟨h1, h2, h3, h4, h5, h6⟩ := h
  simp only at h1 h2 h3 h4 h5 h6
  have g1 : decide ((2 : Int) ≤ k) = true := decide_eq_true (by omega)
  have g2 : decide ((k : Int) ≤ 5) = true := decide_eq_true (by omega)
  have g3 : decide ((6 : Int) < (k : Int) + (ps.length : Nat)) = false := decide_eq_false (by omega)
  simp? only [f2, mP, r_is_whole, lets_cut, List.length_map, g1, g2, g3]
  rw [lc_map PV.str (fun p => !isOf (lets k) p 2 2) PV.str (fun p hp => ⟨_, rfl, by simp? only [r_is_of], fun _ => by simp? only []⟩)]
  rw [map_filter_nil _ ps (fun p hp => by rw [h4 p hp]; rfl)]
  simp? only [Int.reduceAdd, Int.reduceEq, Int.cast_ofNat_Int, List.length_map]
  rw [k_rng_p _ (by omega)]
  simp? only []
  rw [lc_map (fun i : Nat => PV.int i) (fun i => !decide (ps[i]! < ps[i + 1]!)) (fun i : Nat => PV.int i) (fun p hp => ⟨_, rfl, by
    have hp := List.mem_range.mp hp
    simp? only [idx_tS ps p (by omega), idx_tS1 ps p (by omega)], fun _ => by simp? only []⟩)]
  rw [map_filter_nil _ _ (fun p hp => by
    have hp := List.mem_range.mp hp
    rw [decide_eq_true (h5 p (by omega))]; rfl)]
  simp? only [r_is_of, h6]
theorem r_need_manner {m : Mn} (h : m.Ok) : run P (n + 3) 3 [mP m] S = .ok .non S := by
  rw [run_def l3 rfl]
  simp? only [f3, r_is_manner h]
def signs (m : Mn) : List Wd := (lets m.many).map (fun c => [c]) ++ m.pairs
theorem lets_len (k : Nat) : (lets k).length ≤ 5 := by unfold lets; rw [List.length_take]; exact Nat.min_le_right _ _
theorem lets_lenk {k : Nat} (h : k ≤ 5) : (lets k).length = k := by unfold lets; rw [List.length_take]; exact Nat.min_eq_left h
theorem map_one (l : Wd) : (l.map fun c => PV.str [c]) = (l.map fun c => [c]).map PV.str := by rw [List.map_map]; rfl
theorem SL_big : 1000000 ≤ SL := by decide
theorem r_all_signs {m : Mn} (h : m.pairs.length ≤ 6) : run P (n + 1) 4 [mP m] S = .ok (lS (signs m)) S := by
  rw [run_def l4 rfl]
  simp? only [f4, mP, lets_cut]
  rw [p_list_str _ (by have := lets_len m.many; omega), map_one]
  simp? only []
  rw [b_add_lst _ _ (by rw [List.length_map, List.length_map, List.length_map]; have := lets_len m.many; have := SL_big; omega), ← List.map_append]
  simp? only []
  rfl
def hasW (m : Mn) (w : Wd) : Bool := isOf (lets m.many) w 0 8
theorem r_has_word (m : Mn) (w : Wd) : run P (n + 2) 5 [mP m, .str w] S = .ok (.bl (hasW m w)) S := by
  rw [run_def l5 rfl]
  simp? only [f5, mP, lets_cut, r_is_of]
  rfl
theorem r_has_word_no (m : Mn) (v : PV) (h : noStr v) : run P (n + 2) 5 [mP m, v] S = .ok (.bl false) S := by
  rw [run_def l5 rfl]
  simp? only [f5, mP, lets_cut, r_is_of_no _ _ _ _ h]
theorem r_need_word {m : Mn} {w : Wd} (h : hasW m w = true) : run P (n + 3) 6 [mP m, .str w] S = .ok .non S := by
  rw [run_def l6 rfl]
  simp? only [f6, r_has_word, h]
theorem r_need_word_x {m : Mn} {w : Wd} (h : hasW m w = false) : run P (n + 3) 6 [mP m, .str w] S = .exc 2 .non S := by
  rw [run_def l6 rfl]
  simp? only [f6, r_has_word, h]
theorem r_need_word_no {m : Mn} {v : PV} (h : noStr v) : run P (n + 3) 6 [mP m, v] S = .exc 2 .non S := by
  rw [run_def l6 rfl]
  simp? only [f6, r_has_word_no _ _ h]
/-- tuples of words -/
def areW (m : Mn) (ws : List Wd) (a b : Int) : Bool := decide (a ≤ (ws.length : Int)) && decide ((ws.length : Int) ≤ b) && ws.all (hasW m)
theorem r_are_words (m : Mn) (ws : List Wd) (a b : Int) : run P (n + 3) 32 [mP m, tS ws, .int a, .int b] S = .ok (.bl (areW m ws a b)) S := by
  rw [run_def l32 rfl]
  simp? only [f32, List.length_map]
  rw [lc_map PV.str (fun w => !hasW m w) PV.str (fun p hp => ⟨_, rfl, by simp? only [r_has_word], fun _ => by simp? only []⟩)]
  simp? only [empty_filter]
  unfold areW
  cases decide (a ≤ (ws.length : Int)) <;> cases decide ((ws.length : Int) ≤ b) <;> rfl
/-- no tuple -/
def noTup : PV → Prop
  | .tup _ => False
  | .exn _ => False
  | .ptr _ => False
  | .scr _ => False
  | _ => True
theorem r_are_words_no (m : Mn) (v a b : PV) (h : noTup v) : run P (n + 3) 32 [mP m, v, a, b] S = .ok (.bl false) S := by
  rw [run_def l32 rfl]
  cases v <;> first | exact h.elim | (simp? only [f32])
theorem r_need_words {m : Mn} {ws : List Wd} (h : areW m ws 0 8 = true) : run P (n + 4) 56 [mP m, tS ws] S = .ok .non S := by
  rw [run_def l56 rfl]
  simp? only [f56, r_are_words, h]
theorem r_need_words_x {m : Mn} {ws : List Wd} (h : areW m ws 0 8 = false) : run P (n + 4) 56 [mP m, tS ws] S = .exc 3 .non S := by
  rw [run_def l56 rfl]
  simp? only [f56, r_are_words, h]
theorem r_need_words_no {m : Mn} {v : PV} (h : noTup v) : run P (n + 4) 56 [mP m, v] S = .exc 3 .non S := by
  rw [run_def l56 rfl]
  simp? only [f56, r_are_words_no _ _ _ _ h]
/-- alphabets -/
def hasA (m : Mn) (al : List Wd) : Bool := decide (sortS al = sortS (signs m))
theorem signs_len (m : Mn) (h : m.pairs.length ≤ 6) : (signs m).length ≤ 11 := by
  unfold signs
  rw [List.length_append, List.length_map]
  have := lets_len m.many
  omega
theorem r_has_alphabet {m : Mn} (al : List Wd) (h : m.pairs.length ≤ 6) (h2 : al.length < 64) : run P (n + 2) 7 [mP m, tS al] S = .ok (.bl (hasA m al)) S := by
  rw [run_def l7 rfl]
  simp? only [f7]
  rw [lc_map PV.str (fun _ => false) PV.str (fun p hp => ⟨_, rfl, by simp? only [], fun h => nomatch h⟩), map_filter_nil _ _ fun _ _ => rfl]
  simp? only [r_all_signs h, p_sorted_tupS al h2, p_sorted_lstS _ (Nat.lt_of_le_of_lt (signs_len m h) (by decide : 11 < 64))]
  rfl
theorem r_has_alphabet_no {m : Mn} (v : PV) (h : noTup v) : run P (n + 2) 7 [mP m, v] S = .ok (.bl false) S := by
  rw [run_def l7 rfl]
  cases v <;> first | exact h.elim | (simp? only [f7])
theorem r_need_alphabet {m : Mn} {al : List Wd} (h : m.pairs.length ≤ 6) (h2 : al.length < 64) (h3 : hasA m al = true) : run P (n + 3) 57 [mP m, tS al] S = .ok .non S := by
  rw [run_def l57 rfl]
  simp? only [f57, r_has_alphabet al h h2, h3]
theorem r_need_alphabet_x {m : Mn} {al : List Wd} (h : m.pairs.length ≤ 6) (h2 : al.length < 64) (h3 : hasA m al = false) : run P (n + 3) 57 [mP m, tS al] S = .exc 1 .non S := by
  rw [run_def l57 rfl]
  simp? only [f57, r_has_alphabet al h h2, h3]
theorem r_need_alphabet_no {m : Mn} {v : PV} (h : noTup v) : run P (n + 3) 57 [mP m, v] S = .exc 1 .non S := by
  rw [run_def l57 rfl]
  simp? only [f57, r_has_alphabet_no _ h]
end K
end G
set_option maxHeartbeats 1000000
namespace G
namespace K
open M L2
variable {n : Nat} {S : Store}
def rowL (ps : List Wd) : Wd → List Wd
  | [] => []
  | [a] => [[a]]
  | a :: b :: r => if ps.contains [a, b] then [a, b] :: rowL ps r else [a] :: rowL ps (b :: r)
theorem rowL_len (ps : List Wd) : ∀ w : Wd, (rowL ps w).length ≤ w.length
  | [] => Nat.le_refl _
  | [a] => Nat.le_refl _
  | a :: b :: r => by
    unfold rowL
    split
    · have := rowL_len ps r; simp only [List.length_cons]; omega
    · have := rowL_len ps (b :: r); simp only [List.length_cons] at this ⊢; omega
theorem rowL_flat (ps : List Wd) : ∀ w : Wd, (rowL ps w).flatten = w
  | [] => rfl
  | [a] => rfl
  | a :: b :: r => by
    unfold rowL
    split
    · rw [List.flatten_cons, rowL_flat ps r]; rfl
    · rw [List.flatten_cons, rowL_flat ps (b :: r)]; rfl
theorem rowL_inj {ps : List Wd} {a b : Wd} (h : rowL ps a = rowL ps b) : a = b := by
  rw [← rowL_flat ps a, ← rowL_flat ps b, h]
def Two (ps : List Wd) : Prop := ∀ p ∈ ps, p.length = 2
theorem two_no {ps : List Wd} (h : Two ps) {w : Wd} (hw : w.length ≠ 2) : ps.contains w = false := by
  cases e : ps.contains w with
  | false => rfl
  | true => exact absurd (h w (by simpa using e)) hw
theorem row_go {F F2 : Orc} (mx : PV) (ps : List Wd) (ls : PV) (hT : Two ps) (w : Wd) (hw : w.length ≤ 1000) : ∀ (fuel k : Nat) (acc : List Wd) (z : Option PV), w.length - k < fuel → k ≤ w.length → acc.length ≤ k →
    ∃ x y, whR F F2 [some (.tup [mx, tS ps, ls]), some (.str w), some (tS acc), some (.int k), z] (.bin .lt (.var 3) (.pri .len (.cons (.var 1) .nil)))
      (.seq (.asg 4 (.ite (.bin .inn (.slc (.var 1) (.cons (.var 3) .nil) (.cons (.bin .add (.var 3) (.cst (.int 2))) .nil) false) (.bin .idx (.var 0) (.cst (.int 1)))) (.cst (.int 2)) (.cst (.int 1))))
        (.seq (.par [2, 3] (.cons (.bin .add (.var 2) (.tup (.cons (.slc (.var 1) (.cons (.var 3) .nil) (.cons (.bin .add (.var 3) (.var 4)) .nil) false) .nil))) (.cons (.bin .add (.var 3) (.var 4)) .nil))) .nop)) fuel S
      = .nx [some (.tup [mx, tS ps, ls]), some (.str w), some (tS (acc ++ rowL ps (w.drop k))), x, y] S
  | 0, k, acc, z, h, _, _ => absurd h (Nat.not_lt_zero _)
  | fuel + 1, k, acc, z, h, hk, ha => by
    by_cases hlt : k < w.length
    · have hS := SL_big
      obtain ⟨a, r, e⟩ : ∃ a r, w.drop k = a :: r := by
        cases e : w.drop k with
        | nil => rw [List.drop_eq_nil_iff] at e; omega
        | cons a r => exact ⟨a, r, rfl⟩
      have er : r = w.drop (k + 1) := by
        rw [← List.drop_drop, e]; rfl
      have c2 : cutL w (some (k : Int)) (some ((k : Int) + 2)) = (a :: r).take 2 := by
        rw [show ((k : Int) + 2) = ((k + 2 : Nat) : Int) from rfl, cut_mid, e, show k + 2 - k = 2 by omega]
      have c1 : cutL w (some (k : Int)) (some ((k : Int) + 1)) = [a] := by
        rw [show ((k : Int) + 1) = ((k + 1 : Nat) : Int) from rfl, cut_mid, e, show k + 1 - k = 1 by omega]; rfl
      cases hc : ps.contains ((a :: r).take 2) with
      | true =>
        cases r with
        | nil => rw [two_no hT (by simp)] at hc; cases hc
        | cons b r =>
          have hk2 : k + 2 ≤ w.length := by
            have := congrArg List.length e
            rw [List.length_drop] at this
            simp only [List.length_cons] at this
            omega
          obtain ⟨x, y, ih⟩ := row_go (F := F) (F2 := F2) mx ps ls hT w hw fuel (k + 2) (acc ++ [[a, b]]) (some (.int 2)) (by omega) (by omega) (by rw [List.length_append]; simp only [List.length_cons, List.length_nil]; omega)
          refine ⟨x, y, ?_⟩
          rw [wh_succ]
          have d2 : decide ((k : Int) < (w.length : Int)) = true := decide_eq_true (by omega)
          simp? only [d2, wh_t, c2, hc]
          rw [b_add_tup _ _ (by simp only [List.length_map, List.length_cons, List.length_nil]; omega)]
          simp? only []
          rw [wh_nx]
          have e1 : (PV.tup (List.map PV.str acc ++ [PV.str (List.take 2 (a :: b :: r))])) = tS (acc ++ [[a, b]]) := by simp [tS]
          have e2 : (k : Int) + 2 = ((k + 2 : Nat) : Int) := rfl
          rw [e1, e2, ih, List.append_assoc, e]
          have : rowL ps (a :: b :: r) = [a, b] :: rowL ps r := by
            rw [rowL, if_pos (show ps.contains [a, b] = true from hc)]
          rw [this, show w.drop (k + 2) = r from by rw [← List.drop_drop, e]; rfl]
          rfl
      | false =>
        obtain ⟨x, y, ih⟩ := row_go (F := F) (F2 := F2) mx ps ls hT w hw fuel (k + 1) (acc ++ [[a]]) (some (.int 1)) (by omega) (by omega) (by rw [List.length_append]; simp only [List.length_cons, List.length_nil]; omega)
        refine ⟨x, y, ?_⟩
        rw [wh_succ]
        have d2 : decide ((k : Int) < (w.length : Int)) = true := decide_eq_true (by omega)
        simp? only [d2, wh_t, c2, hc, Bool.false_eq_true, c1]
        rw [b_add_tup _ _ (by simp only [List.length_map, List.length_cons, List.length_nil]; omega)]
        simp? only []
        rw [wh_nx]
        have e1 : (PV.tup (List.map PV.str acc ++ [PV.str [a]])) = tS (acc ++ [[a]]) := by simp [tS]
        have e2 : (k : Int) + 1 = ((k + 1 : Nat) : Int) := rfl
        rw [e1, e2, ih, List.append_assoc, e, ← er]
        have : rowL ps (a :: r) = [a] :: rowL ps r := by
          cases r with
          | nil => rfl
          | cons b r => rw [rowL, if_neg (by rw [show List.take 2 (a :: b :: r) = [a, b] from rfl] at hc; rw [hc]; exact Bool.false_ne_true)]
        rw [this]
        rfl
    · refine ⟨some (.int (k : Nat)), z, ?_⟩
      rw [wh_succ]
      have d2 : decide ((k : Int) < (w.length : Int)) = false := decide_eq_false (by omega)
      simp? only [d2, wh_f]
      rw [List.drop_of_length_le (by omega), show rowL ps [] = [] from rfl, List.append_nil]
def Mn.Two (m : Mn) : Prop := K.Two m.pairs
theorem r_row_of {m : Mn} (hT : m.Two) {w : Wd} (hw : w.length ≤ 1000) : run P (n + 1) 11 [mP m, .str w] S = .ok (tS (rowL m.pairs w)) S := by
  rw [run_def l11 rfl]
  obtain ⟨x, y, e⟩ := row_go (F := run P n) (F2 := run P (n - 2)) (S := S) (.int m.many) m.pairs (.str m.last) hT w hw WH 0 [] none (by show _ < 100000; omega) (Nat.zero_le _) (Nat.le_refl _)
  have e0 : (some (PV.tup []) : Option PV) = some (tS []) := rfl
  have e1 : (some (PV.int 0) : Option PV) = some (PV.int ((0 : Nat) : Int)) := rfl
  simp? only [f11, mP]
  rw [e0, e1, e]
  simp? only [List.drop_zero]
inductive Ask where
  | non | bl (b : Bool) | pr (p q : Wd)
def Ask.pv : Ask → PV
  | .non => .non | .bl b => .bl b | .pr p q => .tup [.str p, .str q]
def fd : List Wd → List Wd → Option (Wd × Wd)
  | a :: as, b :: bs => if a = b then fd as bs else some (a, b)
  | _, _ => none
def ul (a b : List Wd) : Ask := match fd a b with
  | some (p, q) => .pr p q
  | none => if a.length = b.length then .non else .bl (decide (a.length < b.length))
theorem ul_go {F F2 : Orc} (u v : Option PV) : ∀ (a b : List Wd) (x y : Option PV), ∃ x' y', foR F F2 [u, v, x, y] [2, 3] (.seq (.ifs (.bin .ne (.var 2) (.var 3)) (.seq (.ret (.tup (.cons (.var 2) (.cons (.var 3) .nil)))) .nop) .nop) .nop) (zipP (a.map .str) (b.map .str)) S
    = match fd a b with
      | some (p, q) => .rt (.tup [.str p, .str q]) S
      | none => .nx [u, v, x', y'] S
  | [], b, x, y => ⟨x, y, rfl⟩
  | _ :: _, [], x, y => ⟨x, y, rfl⟩
  | p :: a, q :: b, x, y => by
    obtain ⟨x', y', ih⟩ := ul_go (F := F) (F2 := F2) u v a b (some (.str p)) (some (.str q))
    refine ⟨x', y', ?_⟩
    simp? only [zipP, fo_cons, fo_t]
    unfold fd
    by_cases h : p = q
    · simp? only [h, fo_nx]
      rw [h] at ih
      exact ih
    · simp? only [h, fo_rt]
theorem r_unlike (a b : List Wd) : run P (n + 1) 58 [tS a, tS b] S = .ok (ul a b).pv S := by
  rw [run_def l58 rfl]
  simp? only [f58]
  obtain ⟨x, y, e⟩ := ul_go (F := run P n) (F2 := run P (n - 2)) (S := S) (some (tS a)) (some (tS b)) a b none none
  rw [e]
  unfold ul
  cases fd a b with
  | some p => rfl
  | none =>
    simp? only [List.length_map]
    by_cases h : a.length = b.length
    · simp? only [h]; rfl
    · have h' : ¬ ((a.length : Int) = (b.length : Int)) := by omega
      simp? only [h, h']
      simp only [Int.ofNat_lt, Bool.false_eq_true, if_false]
      rfl
def strip (m : Mn) (r : List Wd) : List Wd := r.filter fun s => !decide (s = m.last)
theorem r_strip (m : Mn) (r : List Wd) : run P (n + 1) 59 [mP m, tS r] S = .ok (tS (strip m r)) S := by
  rw [run_def l59 rfl]
  simp? only [f59, mP]
  rw [lc_map PV.str (fun s => !decide (s = m.last)) PV.str (fun p hp => ⟨_, rfl, by simp? only [], fun _ => by simp? only []⟩)]
  simp? only []
  rfl
def askR (m : Mn) (a b : List Wd) : Ask := match ul (strip m a) (strip m b) with
  | .non => ul a b
  | k => k
def ask (m : Mn) (a b : Wd) : Ask := askR m (rowL m.pairs a) (rowL m.pairs b)
theorem r_asked {m : Mn} (hT : m.Two) {a b : Wd} (ha : a.length ≤ 1000) (hb : b.length ≤ 1000) : run P (n + 2) 60 [mP m, .str a, .str b] S = .ok (ask m a b).pv S := by
  rw [run_def l60 rfl]
  simp? only [f60, r_row_of hT ha, r_row_of hT hb, r_strip, r_unlike]
  unfold ask askR
  cases ul (strip m (rowL m.pairs a)) (strip m (rowL m.pairs b)) <;> simp? only [Ask.pv, r_unlike, Bool.false_eq_true]
/-- a word whose signs stand in an alphabet -/
def Gd (m : Mn) (al : List Wd) (w : Wd) : Prop := w.length ≤ 1000 ∧ ∀ s ∈ rowL m.pairs w, s ∈ al
def Ask.yes (al : List Wd) : Ask → Bool
  | .non => false | .bl b => b | .pr p q => decide (al.idxOf p < al.idxOf q)
def ahead (m : Mn) (al : List Wd) (a b : Wd) : Bool := (ask m a b).yes al
theorem fd_mem : ∀ {a b : List Wd} {p q : Wd}, fd a b = some (p, q) → p ∈ a ∧ q ∈ b
  | [], b, p, q, h => by simp [fd] at h
  | _ :: _, [], p, q, h => by simp [fd] at h
  | x :: a, y :: b, p, q, h => by
    unfold fd at h
    split at h
    · obtain ⟨h1, h2⟩ := fd_mem h
      exact ⟨List.mem_cons_of_mem _ h1, List.mem_cons_of_mem _ h2⟩
    · cases h
      exact ⟨List.mem_cons_self, List.mem_cons_self⟩
theorem ul_mem {a b : List Wd} {p q : Wd} (h : ul a b = .pr p q) : p ∈ a ∧ q ∈ b := by
  unfold ul at h
  split at h
  · rename_i e
    cases h
    exact fd_mem e
  · split at h <;> cases h
theorem ask_mem {m : Mn} {a b : Wd} {p q : Wd} (h : ask m a b = .pr p q) : p ∈ rowL m.pairs a ∧ q ∈ rowL m.pairs b := by
  unfold ask askR at h
  split at h
  · exact ul_mem h
  · rename_i k hk
    obtain ⟨h1, h2⟩ := ul_mem h
    unfold strip at h1 h2
    exact ⟨(List.mem_filter.mp h1).1, (List.mem_filter.mp h2).1⟩
theorem r_is_ahead {m : Mn} {al : List Wd} (hT : m.Two) {a b : Wd} (ha : Gd m al a) (hb : Gd m al b) : run P (n + 3) 61 [mP m, tS al, .str a, .str b] S = .ok (.bl (ahead m al a b)) S := by
  rw [run_def l61 rfl]
  simp? only [f61, r_asked hT ha.1 hb.1]
  unfold ahead
  cases e : ask m a b with
  | non => simp? only [Ask.pv]; rfl
  | bl b => simp? only [Ask.pv]; cases b <;> rfl
  | pr p q =>
    obtain ⟨h1, h2⟩ := ask_mem e
    simp? only [Ask.pv, p_index_tupS al p (ha.2 p h1), p_index_tupS al q (hb.2 q h2), Int.ofNat_lt]
    rfl
def cmpW (m : Mn) (al : List Wd) (a b : Wd) : Wd := if a = b then [115, 97, 109, 101] else if ahead m al a b then [97, 104, 101, 97, 100] else [98, 101, 104, 105, 110, 100]
/-- an alphabet of a manner -/
structure Alp (m : Mn) (al : List Wd) : Prop where
  ok : m.Ok
  has : hasA m al = true
  len : al.length < 64
theorem Mn.Ok.two' {m : Mn} (h : m.Ok) : m.Two := fun p hp => by
  have := h.two p hp
  unfold isOf at this
  simp only [Bool.and_eq_true, decide_eq_true_eq] at this
  omega
theorem Mn.Ok.pl {m : Mn} (h : m.Ok) : m.pairs.length ≤ 6 := by have := h.six; omega
theorem r_compare {m : Mn} {al : List Wd} (A : Alp m al) {a b : Wd} (ha : Gd m al a) (hb : Gd m al b) (wa : hasW m a = true) (wb : hasW m b = true) : run P (n + 4) 62 [mP m, tS al, .str a, .str b] S = .ok (.str (cmpW m al a b)) S := by
  rw [run_def l62 rfl]
  simp? only [f62, r_need_manner A.ok, r_need_alphabet A.ok.pl A.len A.has, r_need_word wa, r_need_word wb, r_is_ahead A.ok.two' ha hb]
  unfold cmpW
  by_cases h : a = b
  · simp? only [h]
  · simp? only [h]; cases ahead m al a b <;> rfl
end K
end G
set_option maxHeartbeats 1000000
namespace G
namespace K
open M L2
variable {n : Nat} {S : Store}
def fil (lt : Wd → Wd → Bool) (x : Wd) (ws : List Wd) : List Wd := ws.takeWhile (fun y => !lt x y) ++ x :: ws.dropWhile (fun y => !lt x y)
theorem take_tw {α : Type} (p : α → Bool) : ∀ xs : List α, xs.take (xs.takeWhile p).length = xs.takeWhile p
  | [] => rfl
  | x :: xs => by
    rw [List.takeWhile_cons]
    split
    · rw [List.length_cons, List.take_succ_cons, take_tw p xs]
    · rfl
theorem drop_tw {α : Type} (p : α → Bool) : ∀ xs : List α, xs.drop (xs.takeWhile p).length = xs.dropWhile p
  | [] => rfl
  | x :: xs => by
    rw [List.takeWhile_cons, List.dropWhile_cons]
    split
    · rw [List.length_cons, List.drop_succ_cons, drop_tw p xs]
    · rfl
theorem tw_at {α : Type} [Inhabited α] (p : α → Bool) : ∀ (xs : List α) (k : Nat), k < (xs.takeWhile p).length → k < xs.length ∧ p xs[k]! = true
  | [], k, h => absurd h (Nat.not_lt_zero _)
  | x :: xs, k, h => by
    rw [List.takeWhile_cons] at h
    split at h
    · rename_i hx
      cases k with
      | zero => exact ⟨by simp, by simpa using hx⟩
      | succ k =>
        obtain ⟨h1, h2⟩ := tw_at p xs k (by simpa using h)
        exact ⟨by simpa using h1, by simpa using h2⟩
    · exact absurd h (Nat.not_lt_zero _)
theorem tw_end {α : Type} [Inhabited α] (p : α → Bool) : ∀ (xs : List α), (xs.takeWhile p).length < xs.length → p xs[(xs.takeWhile p).length]! = false
  | [], h => absurd h (Nat.not_lt_zero _)
  | x :: xs, h => by
    rw [List.takeWhile_cons] at h ⊢
    cases hx : p x with
    | true =>
      rw [hx] at h
      simp only [if_true, List.length_cons, Nat.succ_lt_succ_iff] at h ⊢
      simpa using tw_end p xs h
    | false => simpa using hx
theorem tw_le {α : Type} (p : α → Bool) (xs : List α) : (xs.takeWhile p).length ≤ xs.length := (List.takeWhile_sublist p).length_le
def LtOk (F : Orc) (g : Nat) (mv av : PV) (lt : Wd → Wd → Bool) (S : Store) (x y : Wd) : Prop := F g [mv, av, .str x, .str y] S = .ok (.bl (lt x y)) S
theorem fil_go {F F2 : Orc} {mv av : PV} {lt : Wd → Wd → Bool} {ws : List Wd} {x : Wd} (h : ∀ y ∈ ws, LtOk F 61 mv av lt S x y) : ∀ (fuel k : Nat), ws.length - k < fuel → k ≤ (ws.takeWhile fun y => !lt x y).length →
    whR F F2 [some mv, some av, some (tS ws), some (.str x), some (.int (k : Nat))] (.and (.bin .lt (.var 4) (.pri .len (.cons (.var 2) .nil))) (.not (.cal 61 (.cons (.var 0) (.cons (.var 1) (.cons (.var 3) (.cons (.bin .idx (.var 2) (.var 4)) .nil)))))))
      (.seq (.asg 4 (.bin .add (.var 4) (.cst (.int 1)))) .nop) fuel S
      = .nx [some mv, some av, some (tS ws), some (.str x), some (.int ((ws.takeWhile fun y => !lt x y).length : Nat))] S
  | 0, k, h1, _ => absurd h1 (Nat.not_lt_zero _)
  | fuel + 1, k, h1, hk => by
    rw [wh_succ]
    have hle := tw_le (fun y => !lt x y) ws
    by_cases hl : k < ws.length
    · have d : decide ((k : Int) < (ws.length : Int)) = true := decide_eq_true (by omega)
      have hx := h ws[k]! (by simp [hl])
      unfold LtOk at hx
      by_cases he : k < (ws.takeWhile fun y => !lt x y).length
      · obtain ⟨_, h3⟩ := tw_at _ _ _ he
        have h3 : lt x ws[k]! = false := by simpa using h3
        simp? only [List.length_map, d, idx_tS ws k hl, hx, h3, wh_t, wh_nx]
        exact fil_go h fuel (k + 1) (by omega) (by omega)
      · have ek : k = (ws.takeWhile fun y => !lt x y).length := by omega
        have h3 : lt x ws[k]! = true := by
          have := tw_end (fun y => !lt x y) ws (by omega)
          rw [← ek] at this
          simpa using this
        simp? only [List.length_map, d, idx_tS ws k hl, hx, h3, wh_f]
        rw [← ek]
    · have d : decide ((k : Int) < (ws.length : Int)) = false := decide_eq_false (by omega)
      simp? only [List.length_map, d, wh_f]
      rw [show k = (ws.takeWhile fun y => !lt x y).length by omega]
theorem r_filed_lt {mv av : PV} {lt : Wd → Wd → Bool} {ws : List Wd} {x : Wd} (hl : ws.length ≤ 1000) (h : ∀ y ∈ ws, LtOk (run P n) 61 mv av lt S x y) : run P (n + 1) 63 [mv, av, tS ws, .str x] S = .ok (tS (fil lt x ws)) S := by
  rw [run_def l63 rfl]
  have e := fil_go (F2 := run P (n - 2)) h WH 0 (by show _ < 100000; omega) (Nat.zero_le _)
  have e1 : (some (PV.int 0) : Option PV) = some (PV.int ((0 : Nat) : Int)) := rfl
  have hS := SL_big
  simp? only [f63]
  rw [e1, e]
  simp? only [cut_take, cut_drop, ← List.map_take, ← List.map_drop, take_tw, drop_tw]
  have t1 : (ws.takeWhile fun y => !lt x y).length ≤ ws.length := tw_le _ _
  have t2 : (ws.dropWhile fun y => !lt x y).length ≤ ws.length := by rw [← drop_tw, List.length_drop]; omega
  rw [b_add_tup _ _ (by simp only [List.length_map, List.length_cons, List.length_nil]; omega)]
  simp? only [cut_drop, ← List.map_drop, drop_tw]
  rw [b_add_tup _ _ (by simp only [List.length_map, List.length_append, List.length_cons, List.length_nil]; omega)]
  simp? only []
  unfold fil
  simp [tS]
theorem fil_mem {lt : Wd → Wd → Bool} {x y : Wd} {ws : List Wd} : y ∈ fil lt x ws ↔ y = x ∨ y ∈ ws := by
  unfold fil
  have := List.takeWhile_append_dropWhile (p := fun y => !lt x y) (l := ws)
  conv => rhs; rw [← this]
  simp only [List.mem_append, List.mem_cons]
  constructor
  · rintro (h | h | h)
    · exact .inr (.inl h)
    · exact .inl h
    · exact .inr (.inr h)
  · rintro (h | h | h)
    · exact .inr (.inl h)
    · exact .inl h
    · exact .inr (.inr h)
theorem fil_perm (lt : Wd → Wd → Bool) (x : Wd) (ws : List Wd) : (fil lt x ws).Perm (x :: ws) := by
  unfold fil
  have := List.takeWhile_append_dropWhile (p := fun y => !lt x y) (l := ws)
  conv => rhs; rw [← this]
  exact List.perm_middle
def ord (lt : Wd → Wd → Bool) (ws : List Wd) : List Wd := ws.foldl (fun acc w => fil lt w acc) []
theorem foldl_perm (lt : Wd → Wd → Bool) : ∀ (ws acc : List Wd), (ws.foldl (fun acc w => fil lt w acc) acc).Perm (acc ++ ws)
  | [], acc => by rw [List.append_nil]; exact .refl _
  | w :: ws, acc => by
    rw [List.foldl_cons]
    refine (foldl_perm lt ws _).trans ?_
    refine ((fil_perm lt w acc).append_right ws).trans ?_
    exact List.perm_middle.symm
theorem ord_perm (lt : Wd → Wd → Bool) (ws : List Wd) : (ord lt ws).Perm ws := foldl_perm lt ws []
theorem ord_go {F F2 : Orc} {mv av u : PV} {lt : Wd → Wd → Bool} {T : Wd → Prop} (h : ∀ (acc : List Wd) (x : Wd), acc.length ≤ 1000 → T x → (∀ y ∈ acc, T y) → F 63 [mv, av, tS acc, .str x] S = .ok (tS (fil lt x acc)) S) :
    ∀ (ws acc : List Wd) (z : Option PV), acc.length + ws.length ≤ 1000 → (∀ y ∈ acc, T y) → (∀ y ∈ ws, T y) → ∃ z', foR F F2 [some mv, some av, some u, some (tS acc), z] [4] (.seq (.asg 3 (.cal 63 (.cons (.var 0) (.cons (.var 1) (.cons (.var 3) (.cons (.var 4) .nil)))))) .nop) (ws.map .str) S
      = .nx [some mv, some av, some u, some (tS (ws.foldl (fun acc w => fil lt w acc) acc)), z'] S
  | [], acc, z, _, _, _ => ⟨z, rfl⟩
  | w :: ws, acc, z, hl, ha, hw => by
    have hl : acc.length + (ws.length + 1) ≤ 1000 := by simpa using hl
    have hp := (fil_perm lt w acc).length_eq
    rw [List.length_cons] at hp
    obtain ⟨z', ih⟩ := ord_go (F := F) (F2 := F2) (u := u) h ws (fil lt w acc) (some (.str w)) (by omega) (fun y hy => by
      rcases fil_mem.mp hy with rfl | hy
      · exact hw _ (List.mem_cons_self)
      · exact ha y hy) fun y hy => hw y (List.mem_cons_of_mem _ hy)
    refine ⟨z', ?_⟩
    simp? only [fo_cons, fo_t, h acc w (by omega) (hw w (List.mem_cons_self)) ha, fo_nx]
    exact ih
theorem r_ordered {m : Mn} {al : List Wd} (hT : m.Two) {ws : List Wd} (hl : ws.length ≤ 1000) (hg : ∀ w ∈ ws, Gd m al w) : run P (n + 5) 64 [mP m, tS al, tS ws] S = .ok (tS (ord (ahead m al) ws)) S := by
  rw [run_def l64 rfl]
  obtain ⟨z, e⟩ := ord_go (F := run P (n + 4)) (F2 := run P (n + 4 - 2)) (S := S) (mv := mP m) (av := tS al) (u := tS ws) (lt := ahead m al) (T := Gd m al) (fun acc x hl hx ha => r_filed_lt hl fun y hy => r_is_ahead hT hx (ha y hy)) ws [] none (by simpa using hl) (by simp) hg
  have e0 : (some (PV.tup []) : Option PV) = some (tS []) := rfl
  simp? only [f64]
  rw [e0, e]
  simp? only []
  rfl
theorem areW_of {m : Mn} {ws : List Wd} {a b : Int} (h : areW m ws a b = true) : a ≤ ws.length ∧ (ws.length : Int) ≤ b ∧ ∀ w ∈ ws, hasW m w = true := by
  unfold areW at h
  simp only [Bool.and_eq_true, decide_eq_true_eq, List.all_eq_true] at h
  exact ⟨h.1.1, h.1.2, h.2⟩
theorem r_in_order {m : Mn} {al : List Wd} (A : Alp m al) {ws : List Wd} (hw : areW m ws 0 8 = true) (hg : ∀ w ∈ ws, Gd m al w) : run P (n + 6) 65 [mP m, tS al, tS ws] S = .ok (lS (ord (ahead m al) ws)) S := by
  rw [run_def l65 rfl]
  obtain ⟨_, h2, _⟩ := areW_of hw
  simp? only [f65, r_need_manner A.ok, r_need_alphabet A.ok.pl A.len A.has, r_need_words hw, r_ordered A.ok.two' (by omega : ws.length ≤ 1000) hg]
end K
end G
set_option maxHeartbeats 1000000
namespace G
namespace K
open M L2
variable {n : Nat} {S : Store}
theorem cut_take2 {α : Type} (xs : List α) : cutL xs none (some 2) = xs.take 2 := cut_take xs 2
theorem cut_take1 {α : Type} (xs : List α) : cutL xs none (some 1) = xs.take 1 := cut_take xs 1
theorem cut_drop1 {α : Type} (xs : List α) : cutL xs (some 1) none = xs.drop 1 := cut_drop xs 1
theorem cut_drop2 {α : Type} (xs : List α) : cutL xs (some 2) none = xs.drop 2 := cut_drop xs 2
theorem r_law_signs {m : Mn} (h : m.pairs.length ≤ 6) : run P (n + 1) 21 [mP m] S = .ok (lS (signs m)) S := by
  rw [run_def l21 rfl]
  simp? only [f21, mP, lets_cut]
  rw [p_list_str _ (by have := lets_len m.many; omega), map_one]
  simp? only []
  rw [b_add_lst _ _ (by rw [List.length_map, List.length_map, List.length_map]; have := lets_len m.many; have := SL_big; omega), ← List.map_append]
  simp? only []
  rfl
theorem r_law_read {m : Mn} (hT : m.Two) : ∀ (k : Nat) (w : Wd), w.length < k → w.length ≤ 1000 → run P (n + k) 23 [mP m, .str w] S = .ok (lS (rowL m.pairs w)) S
  | 0, w, h, _ => absurd h (Nat.not_lt_zero _)
  | k + 1, w, h, hw => by
    have hS := SL_big
    rw [show n + (k + 1) = (n + k) + 1 from rfl, run_def l23 rfl]
    cases w with
    | nil => simp? only [f23, mP]; rfl
    | cons a r =>
      have hn : decide ((a :: r : Wd) = []) = false := rfl
      have hl : r.length < k := by simp only [List.length_cons] at h; omega
      have hw2 : r.length + 1 ≤ 1000 := by simpa using hw
      cases hc : m.pairs.contains ((a :: r).take 2) with
      | true =>
        cases r with
        | nil => rw [two_no hT (by simp)] at hc; cases hc
        | cons b r =>
          have ih := r_law_read hT k r (by simp only [List.length_cons] at hl; omega) (by simp only [List.length_cons] at hw2; omega)
          have e : rowL m.pairs (a :: b :: r) = [a, b] :: rowL m.pairs r := by rw [rowL, if_pos (show m.pairs.contains [a, b] = true from hc)]
          have := rowL_len m.pairs r
          have hd : List.drop 2 (a :: b :: r) = r := rfl
          have hc' : m.pairs.contains (List.take 2 (a :: b :: r)) = true := hc
          unfold mP at ih
          simp? only [f23, mP, hn, cut_take2, hc', cut_drop2, hd, ih]
          rw [b_add_lst _ _ (by simp only [List.length_map, List.length_cons, List.length_nil] at hw2 ⊢; omega)]
          simp? only [e]
          rfl
      | false =>
        have ih := r_law_read hT k r hl (by omega)
        have e : rowL m.pairs (a :: r) = [a] :: rowL m.pairs r := by
          cases r with
          | nil => rfl
          | cons b r => rw [rowL, if_neg (by rw [show List.take 2 (a :: b :: r) = [a, b] from rfl] at hc; rw [hc]; exact Bool.false_ne_true)]
        have := rowL_len m.pairs r
        have hd : List.drop 1 (a :: r) = r := rfl
        unfold mP at ih
        simp? only [f23, mP, hn, cut_take2, hc, cut_drop1, hd, ih]
        rw [b_add_lst _ _ (by simp only [List.length_map, List.length_cons, List.length_nil]; omega)]
        simp? only [e]
        rfl
abbrev lI (r : List Nat) : PV := .lst (r.map fun (i : Nat) => PV.int (i : Nat))
def lexN : List Nat → List Nat → Bool
  | x :: xs, y :: ys => if x = y then lexN xs ys else decide (x < y)
  | [], _ :: _ => true
  | _, [] => false
theorem pveqL_ints : ∀ (a b : List Nat), pveqL (a.map fun i : Nat => PV.int (i : Nat)) (b.map fun i : Nat => PV.int (i : Nat)) = decide (a = b)
  | [], [] => rfl
  | [], _ :: _ => rfl
  | _ :: _, [] => rfl
  | x :: a, y :: b => by
    show (((x : Int) == (y : Int)) && pveqL _ _) = _
    rw [pveqL_ints a b, Bool.beq_eq_decide_eq, ← Bool.decide_and]
    simp only [List.cons.injEq, Int.ofNat_inj]
theorem pvltL_ints : ∀ (a b : List Nat), pvltL (a.map fun i : Nat => PV.int (i : Nat)) (b.map fun i : Nat => PV.int (i : Nat)) = lexN a b
  | [], [] => rfl
  | [], _ :: _ => rfl
  | _ :: _, [] => rfl
  | x :: a, y :: b => by
    show (if ((x : Int) == (y : Int)) = true then pvltL _ _ else decide ((x : Int) < (y : Int))) = _
    rw [pvltL_ints a b]
    rw [show lexN (x :: a) (y :: b) = if x = y then lexN a b else decide (x < y) from rfl]
    simp only [beq_iff_eq, Int.ofNat_inj, Int.ofNat_lt]
theorem pvalkL_ints : ∀ (a b : List Nat), pvalkL (a.map fun i : Nat => PV.int (i : Nat)) (b.map fun i : Nat => PV.int (i : Nat)) = true
  | [], [] => rfl
  | [], _ :: _ => rfl
  | _ :: _, [] => rfl
  | x :: a, y :: b => by
    show (true && pvalkL _ _) = _
    rw [pvalkL_ints a b]; rfl
theorem Dt.ints (r : List Nat) : Dt 1 (lI r) := Dt.lst (d := 0) fun x hx => by obtain ⟨i, _, rfl⟩ := List.mem_map.mp hx; exact Dt.int _
def keyLt (a1 a2 b1 b2 : List Nat) : Bool := if a1 = b1 then lexN a2 b2 else lexN a1 b1
theorem b_lt_key (a1 a2 c1 c2 : List Nat) : b2 .lt (.tup [lI a1, lI a2]) (.tup [lI c1, lI c2]) S = .ok (.bl (keyLt a1 a2 c1 c2)) S := by
  have d : ∀ x y : List Nat, Dt 2 (.tup [lI x, lI y]) := fun x y => Dt.tup (d := 1) fun z hz => by
    rcases List.mem_cons.mp hz with rfl | hz
    · exact Dt.ints _
    · rw [List.mem_singleton.mp hz]; exact Dt.ints _
  show (if eqOk (.tup [lI a1, lI a2]) (.tup [lI c1, lI c2]) && pvalkL [lI a1, lI a2] [lI c1, lI c2] then rok (.bl (pvltL [lI a1, lI a2] [lI c1, lI c2])) S else .bad) = _
  have e1 : pvalkL [lI a1, lI a2] [lI c1, lI c2] = true := by
    show (pvalkL _ _ && (pvalkL _ _ && true)) = true
    rw [pvalkL_ints, pvalkL_ints]; rfl
  have e2 : pvltL [lI a1, lI a2] [lI c1, lI c2] = keyLt a1 a2 c1 c2 := by
    show (if pveqL _ _ = true then (if pveqL _ _ = true then false else pvltL _ _) else pvltL _ _) = _
    rw [pveqL_ints, pveqL_ints, pvltL_ints, pvltL_ints]
    unfold keyLt
    by_cases h : a1 = c1
    · simp only [h, decide_true, if_true]
      by_cases h2 : a2 = c2
      · simp only [h2, decide_true, if_true]
        have irr : ∀ l, lexN l l = false := fun l => by
          induction l with
          | nil => rfl
          | cons x l ih => unfold lexN; rw [if_pos rfl, ih]
        exact (irr c2).symm
      · simp only [h2, decide_false, Bool.false_eq_true, if_false]
    · simp only [h, decide_false, Bool.false_eq_true, if_false]
  rw [e1, e2, (d a1 a2).ok (d c1 c2) (by decide)]
  rfl
def idxs (al r : List Wd) : List Nat := r.map fun s => al.idxOf s
theorem r_law_key {m : Mn} {al : List Wd} (hT : m.Two) {w : Wd} (hw : w.length ≤ 8) (hg : Gd m al w) : run P (n + 10) 66 [mP m, tS al, .str w] S = .ok (.tup [lI (idxs al (strip m (rowL m.pairs w))), lI (idxs al (rowL m.pairs w))]) S := by
  rw [run_def l66 rfl]
  have e := r_law_read (n := n) (S := S) hT 9 w (by omega) (by omega)
  simp? only [f66, e]
  rw [lc_map PV.str (fun s => !decide (s = m.last)) (fun s => PV.int (al.idxOf s : Nat)) (fun p hp => ⟨_, rfl, by simp? only [mP], fun _ => by simp? only [p_index_tupS al p (hg.2 p hp)]⟩)]
  simp? only []
  rw [lc_all PV.str (fun s => PV.int (al.idxOf s : Nat)) (fun p hp => ⟨_, rfl, by simp? only [p_index_tupS al p (hg.2 p hp)]⟩)]
  simp? only []
  unfold idxs strip
  simp [lI]
theorem idx_inj {al : List Wd} {a b : Wd} (ha : a ∈ al) (h : al.idxOf a = al.idxOf b) : a = b := by
  have h1 := List.idxOf_lt_length_of_mem ha
  have e1 : al[al.idxOf a]'h1 = a := List.getElem_idxOf h1
  have h2 : al.idxOf b < al.length := h ▸ h1
  have e2 : al[al.idxOf b]'h2 = b := List.getElem_idxOf h2
  rw [← e1, ← e2]
  simp only [h]
theorem idxs_inj {al : List Wd} : ∀ {a b : List Wd}, (∀ s ∈ a, s ∈ al) → idxs al a = idxs al b → a = b
  | [], [], _, _ => rfl
  | [], _ :: _, _, h => by cases h
  | _ :: _, [], _, h => by cases h
  | x :: a, y :: b, ha, h => by
    unfold idxs at h
    rw [List.map_cons, List.map_cons, List.cons.injEq] at h
    rw [idx_inj (ha x (List.mem_cons_self)) h.1, idxs_inj (fun s hs => ha s (List.mem_cons_of_mem _ hs)) h.2]
theorem fd_none : ∀ {a b : List Wd}, fd a b = none → a.length = b.length → a = b
  | [], [], _, _ => rfl
  | [], _ :: _, _, h => by cases h
  | _ :: _, [], _, h => by cases h
  | x :: a, y :: b, h, hl => by
    unfold fd at h
    split at h
    · rename_i e
      rw [e, fd_none h (by simpa using hl)]
    · cases h
theorem fd_self : ∀ a : List Wd, fd a a = none
  | [] => rfl
  | x :: a => by unfold fd; rw [if_pos rfl]; exact fd_self a
theorem ul_non {a b : List Wd} : ul a b = .non ↔ a = b := by
  constructor
  · intro h
    unfold ul at h
    split at h
    · cases h
    · rename_i e
      split at h
      · rename_i hl; exact fd_none e hl
      · cases h
  · rintro rfl
    unfold ul
    rw [fd_self]
    simp
theorem lexN_idxs {al : List Wd} : ∀ {a b : List Wd}, (∀ s ∈ a, s ∈ al) → lexN (idxs al a) (idxs al b) = (ul a b).yes al
  | [], [], _ => rfl
  | [], _ :: _, _ => by simp [lexN, idxs, ul, fd, Ask.yes]
  | _ :: _, [], _ => by simp [lexN, idxs, ul, fd, Ask.yes]
  | x :: a, y :: b, ha => by
    have ih := lexN_idxs (al := al) (a := a) (b := b) fun s hs => ha s (List.mem_cons_of_mem _ hs)
    unfold idxs at ih ⊢
    rw [List.map_cons, List.map_cons]
    unfold lexN ul fd
    by_cases h : x = y
    · subst h
      rw [if_pos rfl, if_pos rfl, ih]
      unfold ul
      simp only [List.length_cons, Nat.add_right_cancel_iff, Nat.add_lt_add_iff_right]
    · rw [if_neg fun e => h (idx_inj (ha x (List.mem_cons_self)) e), if_neg h]
      rfl
theorem keyLt_ahead {m : Mn} {al : List Wd} {a b : Wd} (ha : ∀ s ∈ rowL m.pairs a, s ∈ al) : keyLt (idxs al (strip m (rowL m.pairs a))) (idxs al (rowL m.pairs a)) (idxs al (strip m (rowL m.pairs b))) (idxs al (rowL m.pairs b)) = ahead m al a b := by
  have hs : ∀ s ∈ strip m (rowL m.pairs a), s ∈ al := fun s h => ha s (List.mem_filter.mp h).1
  unfold keyLt ahead ask askR
  by_cases h : strip m (rowL m.pairs a) = strip m (rowL m.pairs b)
  · rw [if_pos (by rw [h]), ul_non.mpr h, lexN_idxs ha]
  · rw [if_neg fun e => h (idxs_inj hs e), lexN_idxs hs]
    have := mt ul_non.mp h
    cases e : ul (strip m (rowL m.pairs a)) (strip m (rowL m.pairs b)) with
    | non => exact absurd e this
    | bl b => rfl
    | pr p q => rfl
theorem r_law_ahead {m : Mn} {al : List Wd} (hT : m.Two) {a b : Wd} (ha : a.length ≤ 8) (hb : b.length ≤ 8) (ga : Gd m al a) (gb : Gd m al b) : run P (n + 11) 67 [mP m, tS al, .str a, .str b] S = .ok (.bl (ahead m al a b)) S := by
  rw [run_def l67 rfl]
  simp? only [f67, r_law_key hT ha ga, r_law_key hT hb gb, b_lt_key, keyLt_ahead ga.2]
end K
end G
set_option maxHeartbeats 1000000
namespace G
namespace K
open M L2
variable {n : Nat} {S : Store}
def alphs (ss : List Wd) : Nat → List (List Wd)
  | 0 => [[]]
  | k + 1 => ((alphs ss k).map fun row => (ss.filter fun s => !row.contains s).map fun s => row ++ [s]).flatten
theorem alphs_row (ss : List Wd) : ∀ (k : Nat) (r : List Wd), r ∈ alphs ss k → r.length = k
  | 0, r, h => by rw [List.mem_singleton.mp h]; rfl
  | k + 1, r, h => by
    unfold alphs at h
    obtain ⟨l, hl, hr⟩ := List.mem_flatten.mp h
    obtain ⟨q, hq, rfl⟩ := List.mem_map.mp hl
    obtain ⟨s, _, rfl⟩ := List.mem_map.mp hr
    rw [List.length_append, alphs_row ss k q hq]; rfl
theorem flat_len {α β : Type} (f : α → List β) (c : Nat) : ∀ xs : List α, (∀ x ∈ xs, (f x).length ≤ c) → (xs.map f).flatten.length ≤ xs.length * c
  | [], _ => by simp
  | x :: xs, h => by
    rw [List.map_cons, List.flatten_cons, List.length_append, List.length_cons, Nat.succ_mul]
    have h1 := flat_len f c xs fun y hy => h y (List.mem_cons_of_mem _ hy)
    have h2 := h x (List.mem_cons_self)
    omega
theorem alphs_len (ss : List Wd) : ∀ k : Nat, (alphs ss k).length ≤ ss.length ^ k
  | 0 => Nat.le_refl _
  | k + 1 => by
    unfold alphs
    refine Nat.le_trans (flat_len _ ss.length _ fun r _ => by rw [List.length_map]; exact List.length_filter_le _ _) ?_
    rw [Nat.pow_succ]
    exact Nat.mul_le_mul_right _ (alphs_len ss k)
abbrev lT (rs : List (List Wd)) : PV := .lst (rs.map fun r => tS r)
theorem row_ext {F F2 : Orc} {ρ : Env} {i j l : Nat} (row ss : List Wd) (hr : row.length ≤ 1000) (own : List Nat) (ρ0 : Env) (e0 : ∀ s : Wd, ρ0.set j (some (.str s)) = ρ0.set j (some (.str s))) (h : ∀ s : Wd, (ρ0.set j (some (.str s)))[i]? = some (some (tS row))) (h2 : ∀ s : Wd, (ρ0.set j (some (.str s)))[j]? = some (some (.str s))) :
    lcR F F2 ρ0 (.bin .add (.var i) (.tup (.cons (.var j) .nil))) (.bin .notin (.var j) (.var i)) [j] (ss.map .str) S = .ok (((ss.filter fun s => !row.contains s).map fun s => row ++ [s]).map fun r => tS r) S := by
  have hS := SL_big
  rw [lc_map PV.str (fun s => !row.contains s) (fun s => tS (row ++ [s])) (fun p hp => ⟨_, rfl, by simp? only [e_bin, e_var, h, h2], fun _ => by
    simp? only [e_bin, e_var, h, h2]
    rw [b_add_tup _ _ (by simp only [List.length_map, List.length_cons, List.length_nil]; omega)]
    simp [tS]⟩), List.map_map]
  rfl
theorem alph_go1 {F F2 : Orc} (u v w : Option PV) (ss : List Wd) : ∀ (rows : List (List Wd)) (acc : List (List Wd)) (x y : Option PV), (∀ r ∈ rows, r.length ≤ 1000) → acc.length + rows.length * ss.length ≤ 1000000 →
    ∃ x' y', foR F F2 [u, v, some (lS ss), w, some (lT acc), x, y] [5] (.seq (.asg 4 (.bin .add (.var 4) (.com (.bin .add (.var 5) (.tup (.cons (.var 6) .nil))) [6] (.iseq (.var 2)) (.bin .notin (.var 6) (.var 5)) [6]))) .nop) (rows.map fun r => tS r) S
      = .nx [u, v, some (lS ss), w, some (lT (acc ++ (rows.map fun row => (ss.filter fun s => !row.contains s).map fun s => row ++ [s]).flatten)), x', y'] S
  | [], acc, x, y, _, _ => ⟨x, y, by simp [foR, foGo, gk]⟩
  | r :: rows, acc, x, y, hr, hl => by
    have hS := SL_big
    rw [List.length_cons, Nat.succ_mul] at hl
    have hf : ((ss.filter fun s => !r.contains s).map fun s => r ++ [s]).length ≤ ss.length := by rw [List.length_map]; exact List.length_filter_le _ _
    obtain ⟨x', y', ih⟩ := alph_go1 (F := F) (F2 := F2) u v w ss rows (acc ++ ((ss.filter fun s => !r.contains s).map fun s => r ++ [s])) (some (tS r)) y (fun q hq => hr q (List.mem_cons_of_mem _ hq)) (by rw [List.length_append]; omega)
    refine ⟨x', y', ?_⟩
    rw [List.map_cons, fo_cons]
    simp? only [fo_t]
    rw [row_ext (ρ := []) (l := 0) r ss (hr r (List.mem_cons_self)) [] _ (fun _ => rfl) (fun _ => rfl) (fun _ => rfl)]
    simp? only []
    rw [b_add_lst _ _ (by rw [List.length_map, List.length_map]; omega)]
    simp? only [fo_nx]
    have e : (PV.lst (List.map (fun r => tS r) acc ++ List.map (fun r => tS r) (List.map (fun s => r ++ [s]) (List.filter (fun s => !r.contains s) ss)))) = lT (acc ++ ((ss.filter fun s => !r.contains s).map fun s => r ++ [s])) := by rw [lT, List.map_append]
    rw [e, ih, List.flatten_cons, List.append_assoc]
theorem pow6 {a k : Nat} (ha : a ≤ 6) (hk : k ≤ 6) : a ^ k ≤ 46656 := Nat.le_trans (Nat.pow_le_pow_left ha k) (Nat.le_trans (Nat.pow_le_pow_right (by decide) hk) (by decide))
theorem alph_go2 {F F2 : Orc} (u : Option PV) (ss : List Wd) (hs : ss.length ≤ 6) : ∀ (is : List PV) (k : Nat) (w x y z : Option PV), k + is.length ≤ 6 →
    ∃ w' x' y' z', foR F F2 [u, some (lT (alphs ss k)), some (lS ss), w, x, y, z] [3] (.seq (.asg 4 (.lst .nil)) (.seq (.for [5] (.iseq (.var 1)) (.seq (.asg 4 (.bin .add (.var 4) (.com (.bin .add (.var 5) (.tup (.cons (.var 6) .nil))) [6] (.iseq (.var 2)) (.bin .notin (.var 6) (.var 5)) [6]))) .nop)) (.seq (.asg 1 (.var 4)) .nop))) is S
      = .nx [u, some (lT (alphs ss (k + is.length))), some (lS ss), w', x', y', z'] S
  | [], k, w, x, y, z, _ => ⟨w, x, y, z, rfl⟩
  | i :: is, k, w, x, y, z, hk => by
    rw [List.length_cons] at hk
    have h1 := alphs_len ss k
    have h2 := pow6 hs (show k ≤ 6 by omega)
    obtain ⟨x', y', e⟩ := alph_go1 (F := F) (F2 := F2) (S := S) u (some (lT (alphs ss k))) (some i) ss (alphs ss k) [] y z (fun r hr => by rw [alphs_row ss k r hr]; omega) (by
      have := Nat.mul_le_mul (Nat.le_trans h1 h2) hs
      simp only [List.length_nil]; omega)
    obtain ⟨w', x2, y2, z', ih⟩ := alph_go2 (F := F) (F2 := F2) u ss hs is (k + 1) (some i) (some (lT (alphs ss (k + 1)))) x' y' (by omega)
    refine ⟨w', x2, y2, z', ?_⟩
    have e0 : (some (PV.lst []) : Option PV) = some (lT []) := rfl
    rw [fo_cons]
    simp? only [fo_t]
    rw [e0, e]
    simp? only [fo_nx]
    rw [show k + (is.length + 1) = (k + 1) + is.length by omega, ← ih]
    rfl
def alps (m : Mn) : List (List Wd) := alphs (sortS (signs m)) (sortS (signs m)).length
theorem insS_len (x : Wd) : ∀ l : List Wd, (insS x l).length = l.length + 1
  | [] => rfl
  | y :: r => by
    unfold insS
    split
    · rfl
    · rw [List.length_cons, insS_len x r]; rfl
theorem sortS_len : ∀ l : List Wd, (sortS l).length = l.length
  | [] => rfl
  | x :: r => by unfold sortS; rw [insS_len, sortS_len r]; rfl
theorem signs_six {m : Mn} (h : m.Ok) : (signs m).length ≤ 6 := by
  unfold signs
  rw [List.length_append, List.length_map, lets_lenk h.hi]
  exact h.six
theorem rng_six {k : Nat} (h : k ≤ 6) : kRng (.ok (.int (k : Int)) S) = .ok (W0 (rangeP (k : Int))) S := k_rng _ (by omega)
theorem rng_len (k : Nat) : (rangeP (k : Int)).length = k := by unfold rangeP; simp
theorem r_law_alphabets {m : Mn} (h : m.Ok) : run P (n + 2) 22 [mP m] S = .ok (lT (alps m)) S := by
  rw [run_def l22 rfl]
  have h6 : (sortS (signs m)).length ≤ 6 := by rw [sortS_len]; exact signs_six h
  simp? only [f22, r_law_signs h.pl, p_sorted_lstS _ (Nat.lt_of_le_of_lt (signs_six h) (by decide : 6 < 64)), List.length_map]
  obtain ⟨a, b, c, d, e⟩ := alph_go2 (F := run P (n + 1)) (F2 := run P (n + 1 - 2)) (S := S) (some (mP m)) (sortS (signs m)) h6 (rangeP ((sortS (signs m)).length : Int)) 0 none none none none (by rw [rng_len, Nat.zero_add]; exact h6)
  rw [rng_six h6]
  have e0 : (some (PV.lst [PV.tup []]) : Option PV) = some (lT (alphs (sortS (signs m)) 0)) := rfl
  simp? only []
  rw [e0, e]
  simp? only []
  unfold alps
  rw [rng_len, Nat.zero_add]
theorem all_go {F F2 : Orc} (u : Option PV) (ss : List Wd) (hs : ss.length ≤ 6) : ∀ (is : List PV) (k : Nat) (w x y : Option PV), k + is.length ≤ 6 →
    ∃ w', foR F F2 [u, w, some (lS ss), some (lT (alphs ss k)), x, y] [1] (.seq (.asg 3 (.co2 (.bin .add (.var 4) (.tup (.cons (.var 5) .nil))) [4] (.iseq (.var 3)) [5] (.iseq (.var 2)) (.bin .notin (.var 5) (.var 4)) [5] [4, 5])) .nop) is S
      = .nx [u, w', some (lS ss), some (lT (alphs ss (k + is.length))), x, y] S
  | [], k, w, x, y, _ => ⟨w, rfl⟩
  | i :: is, k, w, x, y, hk => by
    rw [List.length_cons] at hk
    have hS := SL_big
    have h1 := alphs_len ss (k + 1)
    have h2 := pow6 hs (show k + 1 ≤ 6 by omega)
    obtain ⟨w', ih⟩ := all_go (F := F) (F2 := F2) u ss hs is (k + 1) (some i) x y (by omega)
    refine ⟨w', ?_⟩
    rw [fo_cons]
    simp? only [fo_t]
    rw [lc2_map (fun r => tS r) (fun row => ((ss.filter fun s => !row.contains s).map fun s => row ++ [s]).map fun r => tS r) (fun r hr => ⟨_, ss.map .str, rfl, by simp? only [], by
      simp? only []
      exact row_ext (ρ := []) (l := 0) r ss (by rw [alphs_row ss k r hr]; omega) [] _ (fun _ => rfl) (fun _ => rfl) (fun _ => rfl)⟩)]
    have e : ((alphs ss k).map fun row => ((ss.filter fun s => !row.contains s).map fun s => row ++ [s]).map fun r => tS r).flatten = (alphs ss (k + 1)).map fun r => tS r := by
      rw [alphs, List.map_flatten, List.map_map]; rfl
    rw [e, k_l2 _ (by rw [List.length_map]; omega)]
    simp? only [fo_nx]
    rw [show k + (is.length + 1) = (k + 1) + is.length by omega, ← ih]
theorem r_all_alphabets {m : Mn} (h : m.Ok) : run P (n + 2) 72 [mP m] S = .ok (lT (alps m)) S := by
  rw [run_def l72 rfl]
  have h6 : (sortS (signs m)).length ≤ 6 := by rw [sortS_len]; exact signs_six h
  simp? only [f72, r_all_signs h.pl, p_sorted_lstS _ (Nat.lt_of_le_of_lt (signs_six h) (by decide : 6 < 64)), List.length_map]
  obtain ⟨a, e⟩ := all_go (F := run P (n + 1)) (F2 := run P (n + 1 - 2)) (S := S) (some (mP m)) (sortS (signs m)) h6 (rangeP ((sortS (signs m)).length : Int)) 0 none none none (by rw [rng_len, Nat.zero_add]; exact h6)
  rw [rng_six h6]
  have e0 : (some (PV.lst [PV.tup []]) : Option PV) = some (lT (alphs (sortS (signs m)) 0)) := rfl
  simp? only []
  rw [e0, e]
  simp? only []
  unfold alps
  rw [rng_len, Nat.zero_add]
end K
end G
set_option maxHeartbeats 1000000
namespace G
namespace K
open M L2
variable {n : Nat} {S : Store}
theorem st_get {S : Store} {x : MO} : (S ++ [x])[S.length]? = some x := by simp
theorem st_set {S : Store} {x y : MO} : (S ++ [x]).set S.length y = S ++ [y] := by
  rw [List.set_append_right _ _ (Nat.le_refl _), Nat.sub_self]; rfl
theorem res_ptr {S : Store} {p : Nat} {xs : List PV} (h : S[p]? = some (.lst xs)) : res S (.ptr p) = .lst xs := by
  show (match S[p]? with | some (MO.lst xs) => PV.lst xs | _ => .ptr p) = _
  rw [h]
theorem b_ne_ptr {S : Store} {p : Nat} {xs : List Wd} (h : S[p]? = some (.lst (xs.map .str))) : b2 .ne (.ptr p) (.lst []) S = .ok (.bl (!xs.isEmpty)) S := by
  show (if eqOk (res S (.ptr p)) (.lst []) then rok (.bl (!pveq (res S (.ptr p)) (.lst []))) S else .bad) = _
  rw [res_ptr h]
  exact b_ne_nilS xs
theorem b_idx_ptr {S : Store} {p : Nat} {x : PV} {xs : List PV} (h : S[p]? = some (.lst (x :: xs))) : b2 .idx (.ptr p) (.int 0) S = .ok x S := by
  have e : b2 .idx (.ptr p) (.int 0) S = (match res S (.ptr p), (PV.int 0) with
    | .tup xs, .int i => match atI xs i with
      | some v => rok v S
      | none => .bad
    | .lst xs, .int i => match atI xs i with
      | some v => rok v S
      | none => .bad
    | .str xs, .int i => match atI xs i with
      | some v => rok (.str [v]) S
      | none => .bad
    | .scr xs, .int i => match atI xs i with
      | some v => rok (.int v) S
      | none => .bad
    | _, _ => .bad) := rfl
  rw [e, res_ptr h]
  show (match atI (x :: xs) 0 with | some v => rok v S | none => .bad) = _
  rw [at0]; rfl
theorem p_remove {S : Store} {p : Nat} {ss : List Wd} {z : Wd} (h : S[p]? = some (.lst (ss.map .str))) (hz : z ∈ ss) : pri .remove [.ptr p, .str z] S = .ok .non (S.set p (.lst ((ss.erase z).map .str))) := by
  show (match S[p]? with
      | some (MO.lst xs) => match allS xs with
        | some ss => if z ∈ ss then rok .non (S.set p (.lst ((ss.erase z).map .str))) else .bad
        | none => .bad
      | _ => .bad) = _
  rw [h]
  show (match allS (ss.map .str) with
        | some ss => if z ∈ ss then rok .non (S.set p (.lst ((ss.erase z).map .str))) else .bad
        | none => .bad) = _
  rw [allS_strs]
  exact if_pos hz
def best (lt : Wd → Wd → Bool) (l : List Wd) (b : Wd) : Wd := l.foldl (fun b w => if lt w b then w else b) b
def sel (lt : Wd → Wd → Bool) : Nat → List Wd → List Wd
  | 0, _ => []
  | _ + 1, [] => []
  | k + 1, x :: r => best lt (x :: r) x :: sel lt k ((x :: r).erase (best lt (x :: r) x))
theorem best_mem (lt : Wd → Wd → Bool) : ∀ (l : List Wd) (b : Wd), best lt l b = b ∨ best lt l b ∈ l
  | [], b => .inl rfl
  | w :: l, b => by
    rw [best, List.foldl_cons]
    rcases best_mem lt l (if lt w b then w else b) with h | h
    · rw [best] at h
      rw [h]
      by_cases hc : lt w b = true
      · rw [if_pos hc]; exact .inr (List.mem_cons_self)
      · rw [if_neg hc]; exact .inl rfl
    · exact .inr (List.mem_cons_of_mem _ h)
theorem best_mem' (lt : Wd → Wd → Bool) (x : Wd) (r : List Wd) : best lt (x :: r) x ∈ x :: r := by
  rcases best_mem lt (x :: r) x with h | h
  · rw [h]; exact List.mem_cons_self
  · exact h
theorem best_go {F F2 : Orc} {mv av : PV} {lt : Wd → Wd → Bool} {T : Wd → Prop} {u v : Option PV} {p : Nat} {ls : List Wd} (hp : S[p]? = some (.lst (ls.map .str))) (h : ∀ x y, T x → T y → F 67 [mv, av, .str x, .str y] S = .ok (.bl (lt x y)) S) (hT : ∀ w ∈ ls, T w) :
    ∀ (fuel i : Nat) (b : Wd) (z : Option PV), ls.length - i < fuel → T b → ∃ z', flR F F2 [some mv, some av, u, some (.ptr p), v, some (.str b), z] [6] (.seq (.asg 5 (.ite (.cal 67 (.cons (.var 0) (.cons (.var 1) (.cons (.var 6) (.cons (.var 5) .nil))))) (.var 6) (.var 5))) .nop) p fuel i S
      = .nx [some mv, some av, u, some (.ptr p), v, some (.str (best lt (ls.drop i) b)), z'] S
  | 0, i, b, z, hf, _ => absurd hf (Nat.not_lt_zero _)
  | fuel + 1, i, b, z, hf, hb => by
    unfold flR folGo
    rw [hp]
    simp only [List.getElem?_map]
    cases hi : ls[i]? with
    | none =>
      refine ⟨z, ?_⟩
      rw [List.drop_of_length_le (List.getElem?_eq_none_iff.mp hi)]
      rfl
    | some w =>
      have hw : w ∈ ls := List.mem_of_getElem? hi
      have hlt := (List.getElem?_eq_some_iff.mp hi).1
      have hd : ls.drop i = w :: ls.drop (i + 1) := by
        rw [List.drop_eq_getElem_cons hlt, (List.getElem?_eq_some_iff.mp hi).2]
      have ht : T (if lt w b then w else b) := by split; exact hT w hw; exact hb
      obtain ⟨z', ih⟩ := best_go (F := F) (F2 := F2) (u := u) (v := v) hp h hT fuel (i + 1) (if lt w b then w else b) (some (.str w)) (by omega) ht
      refine ⟨z', ?_⟩
      unfold flR at ih
      simp? only [Option.map_some, tg_1, h w b (hT w hw) hb]
      rw [hd, show best lt (w :: ls.drop (i + 1)) b = best lt (ls.drop (i + 1)) (if lt w b then w else b) from rfl, ← ih]
      cases lt w b <;> rfl
theorem sel_go {F F2 : Orc} {mv av : PV} {lt : Wd → Wd → Bool} {T : Wd → Prop} {u : Option PV} (h : ∀ x y S, T x → T y → F 67 [mv, av, .str x, .str y] S = .ok (.bl (lt x y)) S) :
    ∀ (fuel : Nat) (ls acc : List Wd) (y z : Option PV), ls.length < fuel → acc.length + ls.length ≤ 1000 → (∀ w ∈ ls, T w) → ∃ y' z', whR F F2 [some mv, some av, u, some (.ptr S.length), some (tS acc), y, z] (.bin .ne (.var 3) (.lst .nil))
        (.seq (.asg 5 (.bin .idx (.var 3) (.cst (.int 0)))) (.seq (.fol [6] (.var 3) (.seq (.asg 5 (.ite (.cal 67 (.cons (.var 0) (.cons (.var 1) (.cons (.var 6) (.cons (.var 5) .nil))))) (.var 6) (.var 5))) .nop)) (.seq (.exp (.mth .remove (.var 3) (.cons (.var 5) .nil))) (.seq (.asg 4 (.bin .add (.var 4) (.tup (.cons (.var 5) .nil)))) .nop)))) fuel (S ++ [.lst (ls.map .str)])
      = .nx [some mv, some av, u, some (.ptr S.length), some (tS (acc ++ sel lt ls.length ls)), y', z'] (S ++ [.lst []])
  | 0, ls, acc, y, z, hf, _, _ => absurd hf (Nat.not_lt_zero _)
  | fuel + 1, [], acc, y, z, hf, _, _ => by
    refine ⟨y, z, ?_⟩
    rw [wh_succ]
    have hne : b2 .ne (.ptr S.length) (.lst []) (S ++ [MO.lst []]) = .ok (.bl false) (S ++ [MO.lst []]) := b_ne_ptr (xs := []) st_get
    simp? only [hne, wh_f]
    rw [show sel lt 0 ([] : List Wd) = [] from rfl, List.append_nil]
  | fuel + 1, x :: r, acc, y, z, hf, hl, hT => by
    have hS := SL_big
    have hb := best_mem' lt x r
    have g1 : (S ++ [MO.lst ((x :: r).map .str)])[S.length]? = some (.lst ((x :: r).map .str)) := st_get
    have hlen : ((x :: r).erase (best lt (x :: r) x)).length = r.length := by rw [List.length_erase_of_mem hb]; rfl
    rw [List.length_cons] at hf hl
    obtain ⟨z1, e1⟩ := best_go (F := F) (F2 := F2) (S := S ++ [MO.lst ((x :: r).map .str)]) (mv := mv) (av := av) (lt := lt) (T := T) (u := u) (v := some (tS acc)) (p := S.length) (ls := x :: r) g1 (fun a b => h a b _) hT WH 0 x z (by show _ < 100000; simp only [List.length_cons]; omega) (hT x (List.mem_cons_self))
    rw [List.drop_zero] at e1
    obtain ⟨y', z', ih⟩ := sel_go (F := F) (F2 := F2) (u := u) h fuel ((x :: r).erase (best lt (x :: r) x)) (acc ++ [best lt (x :: r) x]) (some (.str (best lt (x :: r) x))) z1 (by omega) (by rw [List.length_append, hlen]; simp only [List.length_cons, List.length_nil]; omega) fun w hw => hT w (List.mem_of_mem_erase hw)
    refine ⟨y', z', ?_⟩
    rw [wh_succ]
    have hne : b2 .ne (.ptr S.length) (.lst []) (S ++ [MO.lst ((x :: r).map .str)]) = .ok (.bl true) (S ++ [MO.lst ((x :: r).map .str)]) := b_ne_ptr (xs := x :: r) g1
    have hix : b2 .idx (.ptr S.length) (.int 0) (S ++ [MO.lst ((x :: r).map .str)]) = .ok (.str x) (S ++ [MO.lst ((x :: r).map .str)]) := b_idx_ptr (x := .str x) (xs := r.map .str) g1
    have hrm : pri .remove [.ptr S.length, .str (best lt (x :: r) x)] (S ++ [MO.lst ((x :: r).map .str)]) = .ok .non (S ++ [MO.lst (((x :: r).erase (best lt (x :: r) x)).map .str)]) := by rw [p_remove g1 hb, st_set]
    have g1m := isL g1
    rw [List.map_cons] at hne hix hrm e1 g1m
    rw [List.map_cons]
    simp? only [hne, wh_t, hix, e1, hrm, g1m]
    rw [b_add_tup _ _ (by simp only [List.length_map, List.length_cons, List.length_nil]; omega)]
    simp? only [wh_nx]
    have e2 : (PV.tup (List.map PV.str acc ++ [PV.str (best lt (x :: r) x)])) = tS (acc ++ [best lt (x :: r) x]) := by simp [tS]
    rw [e2, ih, hlen, List.append_assoc]
    rfl
theorem r_law_sorted {m : Mn} {al : List Wd} (hT : m.Two) {ws : List Wd} (hl : ws.length ≤ 1000) (h8 : ∀ w ∈ ws, w.length ≤ 8) (hg : ∀ w ∈ ws, Gd m al w) : run P (n + 12) 68 [mP m, tS al, tS ws] S = .ok (tS (sel (ahead m al) ws.length ws)) (S ++ [.lst []]) := by
  rw [run_def l68 rfl]
  obtain ⟨a, b, e⟩ := sel_go (F := run P (n + 11)) (F2 := run P (n + 11 - 2)) (S := S) (mv := mP m) (av := tS al) (lt := ahead m al) (T := fun w => w.length ≤ 8 ∧ Gd m al w) (u := some (tS ws)) (fun x y S hx hy => r_law_ahead hT hx.1 hy.1 hx.2 hy.2) WH ws [] none none (by show _ < 100000; omega) (by simpa using hl) fun w hw => ⟨h8 w hw, hg w hw⟩
  have e0 : (some (PV.tup []) : Option PV) = some (tS []) := rfl
  simp? only [f68]
  rw [e0, e]
  simp? only []
structure TO (lt : Wd → Wd → Bool) (T : Wd → Prop) : Prop where
  irr : ∀ a, T a → lt a a = false
  tr : ∀ a b c, T a → T b → T c → lt a b = true → lt b c = true → lt a c = true
  tri : ∀ a b, T a → T b → a ≠ b → lt a b = true ∨ lt b a = true
theorem TO.asym {lt : Wd → Wd → Bool} {T : Wd → Prop} (o : TO lt T) {a b : Wd} (ha : T a) (hb : T b) (h : lt a b = true) : lt b a = false := by
  cases e : lt b a with
  | false => rfl
  | true =>
    have := o.tr a b a ha hb ha h e
    rw [o.irr a ha] at this
    cases this
/-- not ahead of it: no later -/
theorem TO.ntr {lt : Wd → Wd → Bool} {T : Wd → Prop} (o : TO lt T) {a b c : Wd} (ha : T a) (hb : T b) (hc : T c) (h1 : lt b a = false) (h2 : lt c b = false) : lt c a = false := by
  by_cases e : a = b
  · subst e; exact h2
  by_cases e2 : b = c
  · subst e2; exact h1
  rcases o.tri a b ha hb e with h | h
  · rcases o.tri b c hb hc e2 with g | g
    · exact o.asym ha hc (o.tr a b c ha hb hc h g)
    · rw [h2] at g; cases g
  · rw [h1] at h; cases h
theorem best_least {lt : Wd → Wd → Bool} {T : Wd → Prop} (o : TO lt T) : ∀ (l : List Wd) (b : Wd), (∀ w ∈ l, T w) → T b → lt b (best lt l b) = false ∧ (∀ w ∈ l, lt w (best lt l b) = false)
  | [], b, _, hb => ⟨o.irr b hb, fun w h => nomatch h⟩
  | w :: l, b, hl, hb => by
    have hw := hl w (List.mem_cons_self)
    have hc : T (if lt w b then w else b) := by split; exact hw; exact hb
    obtain ⟨h1, h2⟩ := best_least o l (if lt w b then w else b) (fun x hx => hl x (List.mem_cons_of_mem _ hx)) hc
    have e : best lt (w :: l) b = best lt l (if lt w b then w else b) := rfl
    have hT : T (best lt l (if lt w b then w else b)) := by
      rcases best_mem lt l (if lt w b then w else b) with h | h
      · rw [h]; exact hc
      · exact hl _ (List.mem_cons_of_mem _ h)
    rw [e]
    have k1 : lt b (if lt w b then w else b) = false := by
      split
      · rename_i h; exact o.asym hw hb h
      · exact o.irr b hb
    have k2 : lt w (if lt w b then w else b) = false := by
      split
      · exact o.irr w hw
      · rename_i h; simpa using h
    refine ⟨o.ntr hT hc hb h1 k1, fun x hx => ?_⟩
    rcases List.mem_cons.mp hx with rfl | hx
    · exact o.ntr hT hc hw h1 k2
    · exact h2 x hx
theorem sel_perm (lt : Wd → Wd → Bool) : ∀ (k : Nat) (l : List Wd), l.length ≤ k → (sel lt k l).Perm l
  | 0, l, h => by rw [List.eq_nil_of_length_eq_zero (Nat.le_zero.mp h)]; exact .refl _
  | k + 1, [], _ => .refl _
  | k + 1, x :: r, h => by
    have hb := best_mem' lt x r
    have := sel_perm lt k ((x :: r).erase (best lt (x :: r) x)) (by rw [List.length_erase_of_mem hb]; simp only [List.length_cons] at h ⊢; omega)
    exact (this.cons _).trans (List.perm_cons_erase hb).symm
theorem sel_sorted {lt : Wd → Wd → Bool} {T : Wd → Prop} (o : TO lt T) : ∀ (k : Nat) (l : List Wd), l.length ≤ k → (∀ w ∈ l, T w) → (sel lt k l).Pairwise fun a b => lt b a = false
  | 0, l, _, _ => .nil
  | k + 1, [], _, _ => .nil
  | k + 1, x :: r, h, hT => by
    have hb := best_mem' lt x r
    have hl : ((x :: r).erase (best lt (x :: r) x)).length ≤ k := by rw [List.length_erase_of_mem hb]; simp only [List.length_cons] at h ⊢; omega
    refine .cons (fun w hw => ?_) (sel_sorted o k _ hl fun w hw => hT w (List.mem_of_mem_erase hw))
    have := (sel_perm lt k _ hl).mem_iff.mp hw
    exact (best_least o (x :: r) x hT (hT x (List.mem_cons_self))).2 w (List.mem_of_mem_erase this)
theorem tw_all {α : Type} {p : α → Bool} {xs : List α} {x : α} (h : x ∈ xs.takeWhile p) : p x = true := by
  induction xs with
  | nil => cases h
  | cons y xs ih =>
    rw [List.takeWhile_cons] at h
    split at h
    · rename_i hy
      rcases List.mem_cons.mp h with rfl | h
      · exact hy
      · exact ih h
    · cases h
theorem fil_sorted {lt : Wd → Wd → Bool} {T : Wd → Prop} (o : TO lt T) {x : Wd} {ws : List Wd} (hx : T x) (hT : ∀ w ∈ ws, T w) (h : ws.Pairwise fun a b => lt b a = false) : (fil lt x ws).Pairwise fun a b => lt b a = false := by
  have e := List.takeWhile_append_dropWhile (p := fun y => !lt x y) (l := ws)
  have hsub1 : (ws.takeWhile fun y => !lt x y).Sublist ws := List.takeWhile_sublist _
  have hsub2 : (ws.dropWhile fun y => !lt x y).Sublist ws := List.dropWhile_sublist _
  have hcross : ∀ a ∈ ws.takeWhile (fun y => !lt x y), ∀ b ∈ ws.dropWhile (fun y => !lt x y), lt b a = false := by
    rw [← e] at h
    exact (List.pairwise_append.mp h).2.2
  have hx2 : ∀ b ∈ ws.dropWhile (fun y => !lt x y), lt b x = false := by
    cases hd : ws.dropWhile (fun y => !lt x y) with
    | nil => intro b hb; cases hb
    | cons y r =>
      have hy : lt x y = true := by
        have := List.head?_dropWhile_not (fun y => !lt x y) ws
        rw [hd] at this
        simpa using this
      have hyT := hT y (hsub2.subset (by rw [hd]; exact List.mem_cons_self))
      intro b hb
      rcases List.mem_cons.mp hb with rfl | hb
      · exact o.asym hx hyT hy
      · have hbT := hT b (hsub2.subset (by rw [hd]; exact List.mem_cons_of_mem _ hb))
        have hyb : lt b y = false := by
          have := h.sublist hsub2
          rw [hd] at this
          exact (List.pairwise_cons.mp this).1 b hb
        exact o.ntr hx hyT hbT (o.asym hx hyT hy) hyb
  unfold fil
  rw [List.pairwise_append]
  refine ⟨h.sublist hsub1, .cons hx2 (h.sublist hsub2), fun a ha b hb => ?_⟩
  rcases List.mem_cons.mp hb with rfl | hb
  · simpa using tw_all ha
  · exact hcross a ha b hb
theorem foldl_sorted {lt : Wd → Wd → Bool} {T : Wd → Prop} (o : TO lt T) : ∀ (ws acc : List Wd), (∀ w ∈ ws, T w) → (∀ w ∈ acc, T w) → acc.Pairwise (fun a b => lt b a = false) → (ws.foldl (fun acc w => fil lt w acc) acc).Pairwise fun a b => lt b a = false
  | [], acc, _, _, h => h
  | w :: ws, acc, hw, ha, h => foldl_sorted o ws (fil lt w acc) (fun x hx => hw x (List.mem_cons_of_mem _ hx)) (fun x hx => by
      rcases fil_mem.mp hx with rfl | hx
      · exact hw _ (List.mem_cons_self)
      · exact ha x hx) (fil_sorted o (hw w (List.mem_cons_self)) ha h)
theorem sel_ord {lt : Wd → Wd → Bool} {T : Wd → Prop} (o : TO lt T) {ws : List Wd} (hT : ∀ w ∈ ws, T w) : sel lt ws.length ws = ord lt ws := by
  have p1 := sel_perm lt ws.length ws (Nat.le_refl _)
  have p2 := ord_perm lt ws
  refine List.Perm.eq_of_pairwise (le := fun a b => lt b a = false) (fun a b ha hb h1 h2 => ?_) (sel_sorted o _ ws (Nat.le_refl _) hT) (foldl_sorted o ws [] hT (by simp) .nil) (p1.trans p2.symm)
  by_cases e : a = b
  · exact e
  · rcases o.tri a b (hT a (p1.mem_iff.mp ha)) (hT b (p2.mem_iff.mp hb)) e with h | h
    · rw [h2] at h; cases h
    · rw [h1] at h; cases h
theorem lexN_irr : ∀ a : List Nat, lexN a a = false
  | [] => rfl
  | x :: a => by
    rw [show lexN (x :: a) (x :: a) = if x = x then lexN a a else decide (x < x) from rfl, if_pos rfl]
    exact lexN_irr a
theorem lexN_tr : ∀ a b c : List Nat, lexN a b = true → lexN b c = true → lexN a c = true
  | [], _, [], _, h => by rename_i b _; cases b <;> simp [lexN] at h
  | [], _, _ :: _, _, _ => rfl
  | _ :: _, [], _, h, _ => by simp [lexN] at h
  | _ :: _, _ :: _, [], _, h => by simp [lexN] at h
  | x :: a, y :: b, z :: c, h1, h2 => by
    rw [show lexN (x :: a) (y :: b) = if x = y then lexN a b else decide (x < y) from rfl] at h1
    rw [show lexN (y :: b) (z :: c) = if y = z then lexN b c else decide (y < z) from rfl] at h2
    rw [show lexN (x :: a) (z :: c) = if x = z then lexN a c else decide (x < z) from rfl]
    split at h1
    · rename_i e; subst e
      split at h2
      · rename_i e; subst e
        rw [if_pos rfl]; exact lexN_tr a b c h1 h2
      · rename_i e; rw [if_neg e]; exact h2
    · rename_i e
      have h1 := of_decide_eq_true h1
      split at h2
      · rename_i e2; subst e2; rw [if_neg e]; exact decide_eq_true h1
      · have h2 := of_decide_eq_true h2
        rw [if_neg (by omega)]; exact decide_eq_true (by omega)
theorem lexN_tri : ∀ a b : List Nat, a ≠ b → lexN a b = true ∨ lexN b a = true
  | [], [], h => absurd rfl h
  | [], _ :: _, _ => .inl rfl
  | _ :: _, [], _ => .inr rfl
  | x :: a, y :: b, h => by
    rw [show lexN (x :: a) (y :: b) = if x = y then lexN a b else decide (x < y) from rfl, show lexN (y :: b) (x :: a) = if y = x then lexN b a else decide (y < x) from rfl]
    by_cases e : x = y
    · subst e
      rw [if_pos rfl, if_pos rfl]
      exact lexN_tri a b fun z => h (by rw [z])
    · rw [if_neg e, if_neg fun z => e z.symm]
      rcases Nat.lt_or_ge x y with g | g
      · exact .inl (decide_eq_true g)
      · exact .inr (decide_eq_true (by omega))
theorem ahead_to (m : Mn) (al : List Wd) : TO (ahead m al) (Gd m al) where
  irr := fun a ha => by
    rw [← keyLt_ahead ha.2]
    unfold keyLt
    rw [if_pos rfl]
    exact lexN_irr _
  tr := fun a b c ha hb hc h1 h2 => by
    rw [← keyLt_ahead ha.2] at h1 ⊢
    rw [← keyLt_ahead hb.2] at h2
    unfold keyLt at *
    split at h1
    · rename_i e
      rw [e] at *
      split at h2
      · rename_i e2; rw [if_pos e2]; exact lexN_tr _ _ _ h1 h2
      · rename_i e2; rw [if_neg e2]; exact h2
    · rename_i e
      split at h2
      · rename_i e2; rw [← e2, if_neg e]; exact h1
      · have := lexN_tr _ _ _ h1 h2
        rw [if_neg fun z => by rw [z, lexN_irr] at this; cases this]
        exact this
  tri := fun a b ha hb h => by
    rw [← keyLt_ahead ha.2, ← keyLt_ahead hb.2]
    unfold keyLt
    by_cases e : idxs al (strip m (rowL m.pairs a)) = idxs al (strip m (rowL m.pairs b))
    · rw [if_pos e, if_pos e.symm]
      exact lexN_tri _ _ fun z => h (rowL_inj (idxs_inj ha.2 z))
    · rw [if_neg e, if_neg fun z => e z.symm]
      exact lexN_tri _ _ e
end K
end G
set_option maxHeartbeats 1000000
namespace G
namespace K
open M L2
variable {n : Nat} {S : Store}
def Vat (S : Store) (p : Nat) : Prop := ∃ a b : Int, S[p]? = some (.lst [.int a, .int b]) ∧ 0 ≤ a ∧ 0 ≤ b ∧ b ≤ 2147483629
structure Dr (p : Nat) (S S' : Store) : Prop where
  v : Vat S' p
  le : S.length ≤ S'.length
  kp : ∀ q, q ≠ p → q < S.length → S'[q]? = S[q]?
theorem Dr.trans {p : Nat} {S S1 S2 : Store} (a : Dr p S S1) (b : Dr p S1 S2) : Dr p S S2 :=
  ⟨b.v, Nat.le_trans a.le b.le, fun q h1 h2 => (b.kp q h1 (Nat.lt_of_lt_of_le h2 a.le)).trans (a.kp q h1 h2)⟩
theorem Dr.refl {p : Nat} {S : Store} (h : Vat S p) : Dr p S S := ⟨h, Nat.le_refl _, fun _ _ _ => rfl⟩
theorem Vat.lt {S : Store} {p : Nat} (h : Vat S p) : p < S.length := by
  obtain ⟨a, b, h, _⟩ := h
  exact (List.getElem?_eq_some_iff.mp h).1
theorem Dr.push {p : Nat} {S : Store} (h : Vat S p) (x : List MO) : Dr p S (S ++ x) := by
  refine ⟨?_, by simp, fun q _ hq => List.getElem?_append_left hq⟩
  have := h.lt
  obtain ⟨a, b, h, r⟩ := h
  exact ⟨a, b, by rw [List.getElem?_append_left this]; exact h, r⟩
theorem Dr.set {p : Nat} {S : Store} (h : p < S.length) {a b : Int} (h1 : 0 ≤ a) (h2 : 0 ≤ b) (h3 : b ≤ 2147483629) : Dr p S (S.set p (.lst [.int a, .int b])) := by
  refine ⟨⟨a, b, by simp [h], h1, h2, h3⟩, by simp, fun q hq _ => List.getElem?_set_ne (fun e => hq e.symm)⟩
theorem idx_ptr0 {S : Store} {p : Nat} {a b : PV} (h : S[p]? = some (.lst [a, b])) : b2 .idx (.ptr p) (.int 0) S = .ok a S := b_idx_ptr h
theorem idx_ptr1 {S : Store} {p : Nat} {a b : PV} (h : S[p]? = some (.lst [a, b])) : b2 .idx (.ptr p) (.int 1) S = .ok b S := by
  have e : b2 .idx (.ptr p) (.int 1) S = (match res S (.ptr p), (PV.int 1) with
    | .tup xs, .int i => match atI xs i with
      | some v => rok v S
      | none => .bad
    | .lst xs, .int i => match atI xs i with
      | some v => rok v S
      | none => .bad
    | .str xs, .int i => match atI xs i with
      | some v => rok (.str [v]) S
      | none => .bad
    | .scr xs, .int i => match atI xs i with
      | some v => rok (.int v) S
      | none => .bad
    | _, _ => .bad) := rfl
  rw [e, res_ptr h]
  show (match atI [a, b] 1 with | some v => rok v S | none => .bad) = _
  rw [at1]; rfl
theorem st0 {S : Store} {p : Nat} {a b v : PV} (h : S[p]? = some (.lst [a, b])) : stIdx (.ptr p) (.int 0) v S = some (S.set p (.lst [v, b])) := by
  show (match S[p]? with
    | some (MO.lst xs) => match ixN xs.length 0 with
      | some k => some (S.set p (.lst (xs.set k v)))
      | none => none
    | _ => none) = _
  rw [h]; rfl
theorem st1 {S : Store} {p : Nat} {a b v : PV} (h : S[p]? = some (.lst [a, b])) : stIdx (.ptr p) (.int 1) v S = some (S.set p (.lst [a, v])) := by
  show (match S[p]? with
    | some (MO.lst xs) => match ixN xs.length 1 with
      | some k => some (S.set p (.lst (xs.set k v)))
      | none => none
    | _ => none) = _
  rw [h]; rfl
theorem r_under {p : Nat} {m : Nat} (h : Vat S p) (h1 : 1 ≤ m) (h2 : m < 1073741824) : ∃ (k : Nat) (S' : Store), k < m ∧ Dr p S S' ∧ run P (n + 1) 14 [.ptr p, .int m] S = .ok (.int k) S' := by
  have hp := h.lt
  obtain ⟨a, b, hs, ha, hb, hb2⟩ := h
  have hm : 0 < (m : Int) := by omega
  have i0 := idx_ptr0 hs
  have i1 := idx_ptr1 hs
  by_cases h0 : 0 < a
  · have k0 := Int.emod_nonneg a (show (m : Int) ≠ 0 by omega)
    have k1 := Int.emod_lt_of_pos a hm
    refine ⟨(a % m).toNat, S.set p (.lst [.int (a / m), .int b]), by omega, Dr.set hp (Int.ediv_nonneg ha (by omega)) hb hb2, ?_⟩
    rw [run_def l14 rfl]
    simp? only [f14, i0, i1, decide_eq_true h0, b_mod_int a m hm, b_fdiv_int a m ⟨hm, by omega⟩, q_t3 _ _ _ _ (st0 hs)]
    rw [Int.toNat_of_nonneg k0]
  · have hx : 0 ≤ (b * 39373 + 101) % 2147483629 ∧ (b * 39373 + 101) % 2147483629 < 2147483629 := ⟨Int.emod_nonneg _ (by decide), Int.emod_lt_of_pos _ (by decide)⟩
    generalize hB : (b * 39373 + 101) % 2147483629 = B at hx
    have hs' : (S.set p (.lst [.int a, .int B]))[p]? = some (.lst [.int a, .int B]) := by simp [hp]
    have j1 := idx_ptr1 hs'
    have k0 := Int.emod_nonneg (B * (B / 5 + 9) % 2147483587 / 32) (show (m : Int) ≠ 0 by omega)
    have k1 := Int.emod_lt_of_pos (B * (B / 5 + 9) % 2147483587 / 32) hm
    have hB5 : 0 ≤ B / 5 ∧ B / 5 ≤ B := ⟨Int.ediv_nonneg hx.1 (by decide), by omega⟩
    refine ⟨(B * (B / 5 + 9) % 2147483587 / 32 % m).toNat, S.set p (.lst [.int a, .int B]), by omega, Dr.set hp ha hx.1 (by omega), ?_⟩
    rw [run_def l14 rfl]
    simp? only [f14, i0, i1, decide_eq_false h0, b_mul_r b 39373 (by decide), b_mod_int _ 2147483629 (by decide), hB, q_t3 _ _ _ _ (st1 hs), j1, b_fdiv_int B 5 (by decide), b_mul_r B (B / 5 + 9) (by omega), b_mod_int _ 2147483587 (by decide), b_fdiv_int _ 32 (by decide), b_mod_int _ m hm]
    rw [Int.toNat_of_nonneg k0]
theorem r_some_l {p : Nat} {xs : List PV} (h : Vat S p) (h1 : xs ≠ []) (h2 : xs.length < 1073741824) : ∃ (x : PV) (S' : Store), x ∈ xs ∧ Dr p S S' ∧ run P (n + 2) 15 [.ptr p, .lst xs] S = .ok x S' := by
  obtain ⟨k, S', hk, hd, e⟩ := r_under (n := n) h (by cases xs with | nil => exact absurd rfl h1 | cons a b => simp) h2
  refine ⟨xs[k], S', List.getElem_mem hk, hd, ?_⟩
  rw [run_def l15 rfl]
  simp? only [f15, e]
  rw [idxl_nat xs k xs[k] (List.getElem?_eq_getElem hk)]
  rfl
theorem r_some_t {p : Nat} {xs : List PV} (h : Vat S p) (h1 : xs ≠ []) (h2 : xs.length < 1073741824) : ∃ (x : PV) (S' : Store), x ∈ xs ∧ Dr p S S' ∧ run P (n + 2) 15 [.ptr p, .tup xs] S = .ok x S' := by
  obtain ⟨k, S', hk, hd, e⟩ := r_under (n := n) h (by cases xs with | nil => exact absurd rfl h1 | cons a b => simp) h2
  refine ⟨xs[k], S', List.getElem_mem hk, hd, ?_⟩
  rw [run_def l15 rfl]
  simp? only [f15, e]
  rw [idx_nat xs k xs[k] (List.getElem?_eq_getElem hk)]
  rfl
/-- one of a list, by what it stands for -/
theorem r_some_m {α : Type} {p : Nat} (inj : α → PV) {xs : List α} (h : Vat S p) (h1 : xs ≠ []) (h2 : xs.length < 1073741824) : ∃ (x : α) (S' : Store), x ∈ xs ∧ Dr p S S' ∧ run P (n + 2) 15 [.ptr p, .lst (xs.map inj)] S = .ok (inj x) S' := by
  obtain ⟨y, S', hy, hd, e⟩ := r_some_l (n := n) (xs := xs.map inj) h (by simpa using h1) (by simpa using h2)
  obtain ⟨x, hx, rfl⟩ := List.mem_map.mp hy
  exact ⟨x, S', hx, hd, e⟩
theorem lets_ne {k : Nat} (h : 2 ≤ k) : lets k ≠ [] := by
  intro e
  have := congrArg List.length e
  unfold lets at this
  rw [List.length_take] at this
  simp only [List.length_cons, List.length_nil] at this
  omega
/-- a letter is drawn -/
theorem r_letter {p : Nat} {k : Nat} (hk : 2 ≤ k) (h : Vat S p) : ∃ (c : Nat) (S' : Store), c ∈ lets k ∧ Dr p S S' ∧ run P (n + 2) 15 [.ptr p, .lst ((lets k).map fun c => .str [c])] S = .ok (.str [c]) S' :=
  r_some_m (fun c => PV.str [c]) h (lets_ne hk) (by have := lets_len k; omega)
theorem two_one (k : Nat) (a b : Nat) (ha : a ∈ lets k) (hb : b ∈ lets k) : isOf (lets k) [a, b] 2 2 = true := by
  unfold isOf
  simp [ha, hb]
theorem many_cut (k : Nat) (h : k ≤ 4) : cutL [97, 98, 99, 100] none (some (k : Int)) = lets k := by
  rw [cut_take]
  unfold lets
  rw [show [97, 98, 99, 100, 101] = [97, 98, 99, 100] ++ [101] from rfl, List.take_append_of_le_length h]
/-- a drawn manner -/
structure DMn (m : Mn) : Prop where
  ok : m.Ok
  four : m.many ≤ 4
  one : m.pairs.length ≤ 1
theorem r_law_manner {p : Nat} (h : Vat S p) : ∃ (m : Mn) (S' : Store), DMn m ∧ Dr p S S' ∧ run P (n + 3) 24 [.ptr p] S = .ok (mP m) S' := by
  obtain ⟨k, S1, hk, d1, e1⟩ := r_some_m (n := n) (fun i : Nat => PV.int (i : Int)) (xs := [2, 3, 3, 3, 4]) h (by simp) (by decide)
  have hk2 : 2 ≤ k ∧ k ≤ 4 := by
    simp only [List.mem_cons, List.not_mem_nil, or_false] at hk
    omega
  obtain ⟨z, S2, hz, d2, e2⟩ := r_under (n := n + 1) d1.v (m := 2) (by decide) (by decide)
  have hl8 : (lets k).length ≤ 8 := by have := lets_len k; omega
  have e1' : run P (n + 2) 15 [.ptr p, .lst [.int 2, .int 3, .int 3, .int 3, .int 4]] S = .ok (.int (k : Int)) S1 := e1
  have e2' : run P (n + 2) 14 [.ptr p, .int 2] S1 = .ok (.int (z : Int)) S2 := e2
  -- the end: the last sign
  have last : ∀ (S3 : Store) (ps : List Wd), Vat S3 p → ∃ (ls : Wd) (S4 : Store), isOf (lets k) ls 0 1 = true ∧ Dr p S3 S4 ∧ ∃ (c : Nat) (S5 : Store), run P (n + 2) 15 [.ptr p, .lst ((lets k).map fun c => .str [c])] S3 = .ok (.str [c]) S5 ∧ run P (n + 2) 15 [.ptr p, .lst [.str [], .str [], .str [c]]] S5 = .ok (.str ls) S4 := fun S3 ps hv => by
    obtain ⟨c, S5, hc, d5, e5⟩ := r_letter (n := n) hk2.1 hv
    obtain ⟨ls, S4, hls, d4, e4⟩ := r_some_m (n := n) PV.str (xs := [[], [], [c]]) d5.v (by simp) (by simp)
    refine ⟨ls, S4, ?_, d5.trans d4, c, S5, e5, e4⟩
    simp only [List.mem_cons, List.not_mem_nil, or_false] at hls
    rcases hls with rfl | rfl | rfl
    · rfl
    · rfl
    · unfold isOf; simp [hc]
  cases z with
  | zero =>
    obtain ⟨a, S3, ha, d3, e3⟩ := r_letter (n := n) hk2.1 d2.v
    obtain ⟨b, S4, hb, d4, e4⟩ := r_letter (n := n) hk2.1 d3.v
    obtain ⟨ls, S6, hls, d6, c, S5, e5, e6⟩ := last S4 [[a, b]] d4.v
    refine ⟨⟨k, [[a, b]], ls⟩, S6, ⟨⟨hk2.1, by show k ≤ 5; omega, by show k + _ ≤ 6; simp; omega, fun q hq => by rw [List.mem_singleton.mp hq]; exact two_one k a b ha hb, fun i hi => by simp at hi, hls⟩, hk2.2, by simp⟩, ((((d1.trans d2).trans d3).trans d4).trans d6), ?_⟩
    rw [run_def l24 rfl]
    simp? only [f24, e1', many_cut k hk2.2, e2', Int.cast_ofNat_Int, p_list_str _ hl8, e3, e4, b_add_str [a] [b] (by simp; have := SL_big; omega), e5, e6]
    rfl
  | succ z =>
    obtain rfl : z = 0 := by omega
    obtain ⟨ls, S6, hls, d6, c, S5, e5, e6⟩ := last S2 [] d2.v
    refine ⟨⟨k, [], ls⟩, S6, ⟨⟨hk2.1, by show k ≤ 5; omega, by show k + _ ≤ 6; simp; omega, fun q hq => (by cases hq), fun i hi => by simp at hi, hls⟩, hk2.2, by simp⟩, ((d1.trans d2).trans d6), ?_⟩
    rw [run_def l24 rfl]
    simp? only [f24, e1', many_cut k hk2.2, e2', Int.cast_ofNat_Int, p_list_str _ hl8, e5, e6]
    rfl
end K
end G
set_option maxHeartbeats 1000000
namespace G
namespace K
open M L2
variable {n : Nat} {S : Store}
theorem b_pow18 : b2 .pow (.int 10) (.int 18) S = .ok (.int 1000000000000000000) S := by
  show (if (0 : Int) ≤ 18 ∧ (18 : Int) ≤ 1000 ∧ (10 : Int).natAbs < 1000000 then rok (.int ((10 : Int) ^ (18 : Int).toNat)) S else .bad) = _
  rw [if_pos (by decide)]
  rfl
theorem idx_scr (xs : List Int) (k : Nat) (h : k < xs.length) : b2 .idx (.scr xs) (.int (k : Int)) S = .ok (.int xs[k]) S := by
  show (match atI xs (k : Int) with | some v => rok (.int v) S | none => .bad) = _
  rw [at_nat, List.getElem?_eq_getElem h]; rfl
theorem vat_end (F F2 : Orc) (u v : Option PV) (c : Int) (k : Nat) (hc : 0 ≤ c) (hv : v = some (.int k)) : ∃ a b : Int, 0 ≤ a ∧ 0 ≤ b ∧ b ≤ 2147483629 ∧ evS (.seq (.ret (.mut (.lst (.cons (.ite (.bin .ge (.var 2) (.bin .pow (.cst (.int 10)) (.cst (.int 18)))) (.var 2) (.cst (.int 0))) (.cons (.bin .add (.bin .mod (.pri .int (.cons (.bin .add (.bin .add (.bin .mul (.var 2) (.cst (.int 131071))) (.bin .mul (.cst (.int 8191)) (.var 1))) (.cst (.int 5))) .nil)) (.cst (.int 2147483629))) (.cst (.int 1))) .nil))))) .nop) F F2 [u, v, some (.int c)] S = .rt (.ptr S.length) (S ++ [.lst [.int a, .int b]]) := by
  subst hv
  have h1 := Int.emod_nonneg (c * 131071 + 8191 * (k : Int) + 5) (show (2147483629 : Int) ≠ 0 by decide)
  have h2 := Int.emod_lt_of_pos (c * 131071 + 8191 * (k : Int) + 5) (show (0 : Int) < 2147483629 by decide)
  refine ⟨if decide (1000000000000000000 ≤ c) = true then c else 0, (c * 131071 + 8191 * (k : Int) + 5) % 2147483629 + 1, by split <;> omega, by omega, by omega, ?_⟩
  simp? only [b_pow18, b_mul_r c 131071 (by decide), b_mul_l 8191 _ (by decide), b_mod_int _ 2147483629 (by decide)]
  split <;> rfl
theorem r_vat (ns : List Int) (k : Nat) : ∃ a b : Int, 0 ≤ a ∧ 0 ≤ b ∧ b ≤ 2147483629 ∧ run P (n + 1) 13 [.scr ns, .int k] S = .ok (.ptr S.length) (S ++ [.lst [.int a, .int b]]) := by
  rw [run_def l13 rfl]
  by_cases hk : k < ns.length
  · obtain ⟨a, b, h1, h2, h3, e⟩ := vat_end (S := S) (run P n) (run P (n - 2)) (some (.scr ns)) (some (.int k)) (if ns[k] < 0 then -ns[k] else ns[k]) k (by split <;> omega) rfl
    refine ⟨a, b, h1, h2, h3, ?_⟩
    have hd : decide ((k : Int) < (ns.length : Int)) = true := decide_eq_true (by omega)
    have e2 : (fin (evS (.seq (.ret (.mut (.lst (.cons (.ite (.bin .ge (.var 2) (.bin .pow (.cst (.int 10)) (.cst (.int 18)))) (.var 2) (.cst (.int 0))) (.cons (.bin .add (.bin .mod (.pri .int (.cons (.bin .add (.bin .add (.bin .mul (.var 2) (.cst (.int 131071))) (.bin .mul (.cst (.int 8191)) (.var 1))) (.cst (.int 5))) .nil)) (.cst (.int 2147483629))) (.cst (.int 1))) .nil))))) .nop) (run P n) (run P (n - 2)) [some (.scr ns), some (.int k), some (.int (if ns[k] < 0 then -ns[k] else ns[k]))] S)) = .ok (.ptr S.length) (S ++ [.lst [.int a, .int b]]) := by rw [e]; rfl
    rw [← e2]
    generalize hB : (St.seq (.ret (.mut (.lst (.cons (.ite (.bin .ge (.var 2) (.bin .pow (.cst (.int 10)) (.cst (.int 18)))) (.var 2) (.cst (.int 0))) (.cons (.bin .add (.bin .mod (.pri .int (.cons (.bin .add (.bin .add (.bin .mul (.var 2) (.cst (.int 131071))) (.bin .mul (.cst (.int 8191)) (.var 1))) (.cst (.int 5))) .nil)) (.cst (.int 2147483629))) (.cst (.int 1))) .nil))))) .nop) = B
    have hf : f13.body = .seq (.asg 2 (.bin .add (.bin .mul (.cst (.int 7919)) (.var 1)) (.cst (.int 43)))) (.seq (.ifs (.bin .lt (.var 1) (.pri .len (.cons (.var 0) .nil))) (.seq (.asg 2 (.pri .abs (.cons (.pri .int (.cons (.bin .idx (.var 0) (.var 1)) .nil)) .nil))) .nop) .nop) B) := by rw [← hB]; rfl
    rw [hf]
    simp? only [show f13.nl = 3 from rfl, show f13.ar = 2 from rfl, b_mul_l 7919 _ (show -18446744073709551616 < (7919 : Int) ∧ (7919 : Int) < 18446744073709551616 by decide), hd, idx_scr ns k hk]
  · obtain ⟨a, b, h1, h2, h3, e⟩ := vat_end (S := S) (run P n) (run P (n - 2)) (some (.scr ns)) (some (.int k)) (7919 * (k : Int) + 43) k (by omega) rfl
    refine ⟨a, b, h1, h2, h3, ?_⟩
    have hd : decide ((k : Int) < (ns.length : Int)) = false := decide_eq_false (by omega)
    have e2 : (fin (evS (.seq (.ret (.mut (.lst (.cons (.ite (.bin .ge (.var 2) (.bin .pow (.cst (.int 10)) (.cst (.int 18)))) (.var 2) (.cst (.int 0))) (.cons (.bin .add (.bin .mod (.pri .int (.cons (.bin .add (.bin .add (.bin .mul (.var 2) (.cst (.int 131071))) (.bin .mul (.cst (.int 8191)) (.var 1))) (.cst (.int 5))) .nil)) (.cst (.int 2147483629))) (.cst (.int 1))) .nil))))) .nop) (run P n) (run P (n - 2)) [some (.scr ns), some (.int k), some (.int (7919 * (k : Int) + 43))] S)) = .ok (.ptr S.length) (S ++ [.lst [.int a, .int b]]) := by rw [e]; rfl
    rw [← e2]
    generalize hB : (St.seq (.ret (.mut (.lst (.cons (.ite (.bin .ge (.var 2) (.bin .pow (.cst (.int 10)) (.cst (.int 18)))) (.var 2) (.cst (.int 0))) (.cons (.bin .add (.bin .mod (.pri .int (.cons (.bin .add (.bin .add (.bin .mul (.var 2) (.cst (.int 131071))) (.bin .mul (.cst (.int 8191)) (.var 1))) (.cst (.int 5))) .nil)) (.cst (.int 2147483629))) (.cst (.int 1))) .nil))))) .nop) = B
    have hf : f13.body = .seq (.asg 2 (.bin .add (.bin .mul (.cst (.int 7919)) (.var 1)) (.cst (.int 43)))) (.seq (.ifs (.bin .lt (.var 1) (.pri .len (.cons (.var 0) .nil))) (.seq (.asg 2 (.pri .abs (.cons (.pri .int (.cons (.bin .idx (.var 0) (.var 1)) .nil)) .nil))) .nop) .nop) B) := by rw [← hB]; rfl
    rw [hf]
    simp? only [show f13.nl = 3 from rfl, show f13.ar = 2 from rfl, b_mul_l 7919 _ (show -18446744073709551616 < (7919 : Int) ∧ (7919 : Int) < 18446744073709551616 by decide), hd]
/-- letters of a manner -/
def LetW (m : Mn) (w : Wd) : Prop := ∀ c ∈ w, c ∈ lets m.many
theorem LetW.hasW {m : Mn} {w : Wd} (h : LetW m w) (hl : w.length ≤ 8) : hasW m w = true := by
  unfold K.hasW isOf
  simp only [Bool.and_eq_true, decide_eq_true_eq, List.all_eq_true, List.contains_iff_mem]
  exact ⟨⟨by omega, by omega⟩, h⟩
theorem word_go {F F2 : Orc} {p : Nat} {m : Mn} (u : Option PV) (hF : ∀ S, Vat S p → ∃ (c : Nat) (S' : Store), c ∈ lets m.many ∧ Dr p S S' ∧ F 15 [.ptr p, .lst ((lets m.many).map fun c => .str [c])] S = .ok (.str [c]) S') :
    ∀ (is : List PV) (w : Wd) (z : Option PV) (S : Store), Vat S p → LetW m w → w.length + is.length ≤ 1000 → ∃ (w' : Wd) (z' : Option PV) (S' : Store), Dr p S S' ∧ LetW m w' ∧ w'.length = w.length + is.length ∧
      foR F F2 [some (.ptr p), some (mP m), u, some (.str w), z] [4] (.seq (.asg 3 (.bin .add (.var 3) (.cal 15 (.cons (.var 0) (.cons (.pri .list (.cons (.slc (.cst (.str [97, 98, 99, 100, 101])) .nil (.cons (.bin .idx (.var 1) (.cst (.int 0))) .nil) false) .nil)) .nil))))) .nop) is S = .nx [some (.ptr p), some (mP m), u, some (.str w'), z'] S'
  | [], w, z, S, hv, hw, _ => ⟨w, z, S, Dr.refl hv, hw, rfl, rfl⟩
  | i :: is, w, z, S, hv, hw, hl => by
    have hS := SL_big
    rw [List.length_cons] at hl
    obtain ⟨c, S1, hc, d1, e1⟩ := hF S hv
    obtain ⟨w', z', S', d2, hw', hl', e2⟩ := word_go (F := F) (F2 := F2) u hF is (w ++ [c]) (some i) S1 d1.v (fun x hx => by
      rcases List.mem_append.mp hx with hx | hx
      · exact hw x hx
      · rw [List.mem_singleton.mp hx]; exact hc) (by rw [List.length_append]; simp only [List.length_cons, List.length_nil]; omega)
    refine ⟨w', z', S', d1.trans d2, hw', by rw [hl', List.length_append, List.length_cons]; simp only [List.length_cons, List.length_nil]; omega, ?_⟩
    have hl8 : (lets m.many).length ≤ 8 := by have := lets_len m.many; omega
    rw [fo_cons]
    unfold mP at e2 ⊢
    simp? only [fo_t, lets_cut, p_list_str _ hl8, e1, b_add_str w [c] (by simp only [List.length_cons, List.length_nil]; omega), fo_nx]
    exact e2
theorem r_law_word {p : Nat} {m : Mn} (hm : 2 ≤ m.many) (most : Nat) (hmost : most ≤ 900) (h : Vat S p) : ∃ (w : Wd) (S' : Store), LetW m w ∧ w.length ≤ most ∧ Dr p S S' ∧ run P (n + 3) 25 [.ptr p, mP m, .int most] S = .ok (.str w) S' := by
  obtain ⟨k, S1, hk, d1, e1⟩ := r_under (n := n + 1) h (m := most + 1) (by omega) (by omega)
  obtain ⟨w, z, S2, d2, hw, hl, e2⟩ := word_go (F := run P (n + 2)) (F2 := run P (n + 2 - 2)) (some (.int most)) (fun S hv => r_letter (n := n) hm hv) (rangeP (k : Int)) [] none S1 d1.v (fun c hc => nomatch hc) (by rw [rng_len]; simp only [List.length_nil]; omega)
  rw [rng_len] at hl
  refine ⟨w, S2, hw, by rw [hl]; simp only [List.length_nil]; omega, d1.trans d2, ?_⟩
  rw [run_def l25 rfl]
  have e1' : run P (n + 2) 14 [.ptr p, .int ((most : Int) + 1)] S = .ok (.int (k : Int)) S1 := e1
  simp? only [f25, e1', k_rng (k : Int) (by omega), e2]
theorem words_go {F F2 : Orc} {p : Nat} {m : Mn} (u : Option PV) (hW : ∀ (most : Nat) S, most ≤ 900 → Vat S p → ∃ (w : Wd) (S' : Store), LetW m w ∧ w.length ≤ most ∧ Dr p S S' ∧ F 25 [.ptr p, mP m, .int most] S = .ok (.str w) S')
    (hU : ∀ (k : Nat) S, 1 ≤ k → k < 1073741824 → Vat S p → ∃ (i : Nat) (S' : Store), i < k ∧ Dr p S S' ∧ F 14 [.ptr p, .int k] S = .ok (.int i) S')
    (hN : ∀ (ws : List Wd) S, ws ≠ [] → ws.length < 1073741824 → Vat S p → ∃ (w : Wd) (S' : Store), w ∈ ws ∧ Dr p S S' ∧ F 15 [.ptr p, lS ws] S = .ok (.str w) S') :
    ∀ (is : List PV) (ws : List Wd) (x y z : Option PV) (S : Store), Vat S p → (∀ w ∈ ws, LetW m w ∧ w.length ≤ 8) → ws.length + is.length ≤ 1000 → ∃ (ws' : List Wd) (x' y' z' : Option PV) (S' : Store), Dr p S S' ∧ (∀ w ∈ ws', LetW m w ∧ w.length ≤ 8) ∧ ws'.length = ws.length + is.length ∧
      foR F F2 [some (.ptr p), some (mP m), u, some (tS ws), x, y, z] [4] (.seq (.asg 5 (.cal 25 (.cons (.var 0) (.cons (.var 1) (.cons (.cst (.int 4)) .nil))))) (.seq (.ifs (.and (.bin .ne (.var 3) (.tup .nil)) (.bin .eq (.cal 14 (.cons (.var 0) (.cons (.cst (.int 2)) .nil))) (.cst (.int 0)))) (.seq (.asg 6 (.cal 15 (.cons (.var 0) (.cons (.pri .list (.cons (.var 3) .nil)) .nil)))) (.seq (.asg 5 (.bin .add (.slc (.var 6) .nil (.cons (.cal 14 (.cons (.var 0) (.cons (.bin .add (.pri .len (.cons (.var 6) .nil)) (.cst (.int 1))) .nil))) .nil) false) (.cal 25 (.cons (.var 0) (.cons (.var 1) (.cons (.cst (.int 2)) .nil)))))) .nop)) .nop) (.seq (.asg 3 (.bin .add (.var 3) (.tup (.cons (.slc (.var 5) .nil (.cons (.cst (.int 8)) .nil) false) .nil)))) .nop))) is S
        = .nx [some (.ptr p), some (mP m), u, some (tS ws'), x', y', z'] S'
  | [], ws, x, y, z, S, hv, hw, _ => ⟨ws, x, y, z, S, Dr.refl hv, hw, rfl, rfl⟩
  | i :: is, ws, x, y, z, S, hv, hw, hl => by
    have hS := SL_big
    rw [List.length_cons] at hl
    obtain ⟨w, S1, hlw, hlen, d1, e1⟩ := hW 4 S (by decide) hv
    have e1' : F 25 [.ptr p, mP m, .int 4] S = .ok (.str w) S1 := e1
    have take8 : ∀ v : Wd, LetW m v → LetW m (v.take 8) ∧ (v.take 8).length ≤ 8 := fun v hv => ⟨fun c hc => hv c (List.mem_of_mem_take hc), by rw [List.length_take]; exact Nat.min_le_left _ _⟩
    have ext : ∀ v : Wd, LetW m v → ∀ q ∈ ws ++ [v.take 8], LetW m q ∧ q.length ≤ 8 := fun v hv q hq => by
      rcases List.mem_append.mp hq with hq | hq
      · exact hw q hq
      · rw [List.mem_singleton.mp hq]; exact take8 v hv
    have cut8 : ∀ v : Wd, cutL v none (some 8) = v.take 8 := fun v => cut_take v 8
    have tl : ∀ v : Wd, (PV.tup (List.map PV.str ws ++ [PV.str (v.take 8)])) = tS (ws ++ [v.take 8]) := fun v => by simp [tS]
    have hne : b2 .ne (tS ws) (.tup []) S1 = .ok (.bl (!decide (ws = []))) S1 := b_ne_tupS ws []
    have plain : ∀ (S2 : Store) (x2 y2 z2 : Option PV) (v : Wd), LetW m v → Dr p S S2 → ∃ (ws' : List Wd) (x' y' z' : Option PV) (S' : Store), Dr p S S' ∧ (∀ w ∈ ws', LetW m w ∧ w.length ≤ 8) ∧ ws'.length = ws.length + (is.length + 1) ∧ _ := fun S2 x2 y2 z2 v hv2 d2 => by
      obtain ⟨ws', x', y', z', S', d3, h3, l3, e3⟩ := words_go (F := F) (F2 := F2) u hW hU hN is (ws ++ [v.take 8]) (some i) (some (.str v)) z2 S2 d2.v (ext v hv2) (by rw [List.length_append]; simp only [List.length_cons, List.length_nil]; omega)
      exact ⟨ws', x', y', z', S', d2.trans d3, h3, by rw [l3, List.length_append]; simp only [List.length_cons, List.length_nil]; omega, e3⟩
    by_cases hws : ws = []
    · obtain ⟨ws', x', y', z', S', d3, h3, l3, e3⟩ := plain S1 none none z w hlw d1
      refine ⟨ws', x', y', z', S', d3, h3, l3, ?_⟩
      subst hws
      have hne0 : b2 .ne (tS []) (.tup []) S1 = .ok (.bl false) S1 := b_ne_tupS [] []
      rw [fo_cons]
      simp? only [fo_t, e1', hne0]
      rw [cut8, b_add_tup _ _ (by simp only [List.length_map, List.length_cons, List.length_nil]; omega)]
      simp? only [fo_nx]
      exact e3
    · obtain ⟨j, S2, hj, d2, e2⟩ := hU 2 S1 (by decide) (by decide) d1.v
      have e2' : F 14 [.ptr p, .int 2] S1 = .ok (.int j) S2 := e2
      cases j with
      | zero =>
        obtain ⟨nr, S3, hnr, d3, e3⟩ := hN ws S2 hws (by omega) d2.v
        have hnr2 := hw nr hnr
        obtain ⟨q, S4, hq, d4, e4⟩ := hU (nr.length + 1) S3 (by omega) (by omega) d3.v
        have e4' : F 14 [.ptr p, .int ((nr.length : Int) + 1)] S3 = .ok (.int q) S4 := e4
        obtain ⟨v2, S5, hv2, hl2, d5, e5⟩ := hW 2 S4 (by decide) d4.v
        have e5' : F 25 [.ptr p, mP m, .int 2] S4 = .ok (.str v2) S5 := e5
        have lw : LetW m (nr.take q ++ v2) := fun c hc => by
          rcases List.mem_append.mp hc with hc | hc
          · exact hnr2.1 c (List.mem_of_mem_take hc)
          · exact hv2 c hc
        obtain ⟨ws', x', y', z', S', d6, h6, l6, e6⟩ := plain S5 none none (some (.str nr)) (nr.take q ++ v2) lw ((((d1.trans d2).trans d3).trans d4).trans d5)
        refine ⟨ws', x', y', z', S', d6, h6, l6, ?_⟩
        have ht : (nr.take q).length ≤ nr.length := by rw [List.length_take]; exact Nat.min_le_right _ _
        rw [fo_cons]
        simp? only [fo_t, e1', hne, hws, e2', Int.cast_ofNat_Int, e3, e4', cut_take, e5', b_add_str (nr.take q) v2 (by omega)]
        rw [cut8, b_add_tup _ _ (by simp only [List.length_map, List.length_cons, List.length_nil]; omega)]
        simp? only [fo_nx]
        rw [tl]
        exact e6
      | succ j =>
        obtain rfl : j = 0 := by omega
        obtain ⟨ws', x', y', z', S', d3, h3, l3, e3⟩ := plain S2 none none z w hlw (d1.trans d2)
        refine ⟨ws', x', y', z', S', d3, h3, l3, ?_⟩
        rw [fo_cons]
        have h10 : decide ((((0 + 1 : Nat)) : Int) = 0) = false := rfl
        simp? only [fo_t, e1', hne, hws, e2', h10]
        rw [cut8, b_add_tup _ _ (by simp only [List.length_map, List.length_cons, List.length_nil]; omega)]
        simp? only [fo_nx]
        rw [tl]
        exact e3
end K
end G
set_option maxHeartbeats 1000000
namespace G
namespace K
open M L2
variable {n : Nat} {S : Store}
theorem r_law_words {p : Nat} {m : Mn} (hm : 2 ≤ m.many) (many : Nat) (hmany : many ≤ 900) (h : Vat S p) : ∃ (ws : List Wd) (S' : Store), (∀ w ∈ ws, LetW m w ∧ w.length ≤ 8) ∧ ws.length = many ∧ Dr p S S' ∧ run P (n + 4) 48 [.ptr p, mP m, .int many] S = .ok (tS ws) S' := by
  obtain ⟨ws, x, y, z, S', d, h1, h2, e⟩ := words_go (F := run P (n + 3)) (F2 := run P (n + 3 - 2)) (p := p) (m := m) (some (.int many)) (fun most S hmost hv => r_law_word (n := n) hm most hmost hv) (fun k S h1 h2 hv => r_under (n := n + 2) hv h1 h2) (fun ws S h1 h2 hv => r_some_m (n := n + 1) PV.str hv h1 h2) (rangeP (many : Int)) [] none none none S h (by simp) (by rw [rng_len]; simp only [List.length_nil]; omega)
  rw [rng_len] at h2
  refine ⟨ws, S', h1, by rw [h2]; simp, d, ?_⟩
  have e0 : (some (PV.tup []) : Option PV) = some (tS []) := rfl
  rw [run_def l48 rfl]
  simp? only [f48, k_rng (many : Int) (by omega)]
  rw [e0, e]
  simp? only []
theorem insS_perm (x : Wd) : ∀ l : List Wd, (insS x l).Perm (x :: l)
  | [] => .refl _
  | y :: r => by
    unfold insS
    split
    · exact .refl _
    · exact ((insS_perm x r).cons y).trans (List.Perm.swap x y r)
theorem sort_perm : ∀ l : List Wd, (sortS l).Perm l
  | [] => .refl _
  | x :: r => (insS_perm x (sortS r)).trans ((sort_perm r).cons x)
theorem insS_sorted (x : Wd) : ∀ l : List Wd, l.Pairwise (fun a b => ¬ b < a) → (insS x l).Pairwise (fun a b => ¬ b < a)
  | [], _ => by unfold insS; exact List.pairwise_singleton _ _
  | y :: r, h => by
    unfold insS
    have h1 := List.pairwise_cons.mp h
    split
    · rename_i hxy
      refine .cons (fun z hz => ?_) h
      rcases List.mem_cons.mp hz with rfl | hz
      · exact List.lt_asymm hxy
      · intro hzx
        exact h1.1 z hz (List.lt_trans hzx hxy)
    · rename_i hxy
      refine .cons (fun z hz => ?_) (insS_sorted x r h1.2)
      rcases List.mem_cons.mp ((insS_perm x r).mem_iff.mp hz) with rfl | hz
      · exact hxy
      · exact h1.1 z hz
theorem sort_sorted : ∀ l : List Wd, (sortS l).Pairwise (fun a b => ¬ b < a)
  | [] => .nil
  | x :: r => insS_sorted x _ (sort_sorted r)
theorem sort_eq {a b : List Wd} (h : a.Perm b) : sortS a = sortS b :=
  List.Perm.eq_of_pairwise (le := fun a b => ¬ b < a) (fun x y _ _ h1 h2 => List.le_antisymm h1 h2) (sort_sorted a) (sort_sorted b) ((sort_perm a).trans (h.trans (sort_perm b).symm))
theorem sort_iff {a b : List Wd} : sortS a = sortS b ↔ a.Perm b := ⟨fun h => (sort_perm a).symm.trans (h ▸ sort_perm b), sort_eq⟩
theorem lets_nd (k : Nat) : (lets k).Nodup := (show ([97, 98, 99, 100, 101] : List Nat).Nodup by decide).sublist (List.take_sublist _ _)
theorem Mn.Ok.pairs_nd {m : Mn} (h : m.Ok) : m.pairs.Nodup := by
  have h5 := h.asc
  generalize m.pairs = ps at h5
  have key : ∀ ps : List Wd, (∀ i, i + 1 < ps.length → ps[i]! < ps[i + 1]!) → ps.Pairwise (fun a b => a < b) := by
    intro ps
    induction ps with
    | nil => intro _; exact .nil
    | cons x r ih =>
      intro h
      have h' : ∀ i, i + 1 < r.length → r[i]! < r[i + 1]! := fun i hi => by
        have := h (i + 1) (by simpa using hi)
        simpa using this
      have hr := ih h'
      refine .cons (fun y hy => ?_) hr
      cases r with
      | nil => cases hy
      | cons z t =>
        have hxz : x < z := by have := h 0 (by simp); simpa using this
        rcases List.mem_cons.mp hy with rfl | hy
        · exact hxz
        · exact List.lt_trans hxz ((List.pairwise_cons.mp hr).1 y hy)
  exact (key ps h5).imp fun hab e => by subst e; exact List.lt_irrefl _ hab
theorem signs_nd {m : Mn} (h : m.Ok) : (signs m).Nodup := by
  unfold signs
  rw [List.nodup_append]
  refine ⟨?_, h.pairs_nd, fun a ha b hb e => ?_⟩
  · exact List.Pairwise.map (R := fun a b => a ≠ b) _ (fun a b hab e => hab (by cases e; rfl)) (lets_nd m.many)
  · obtain ⟨c, _, rfl⟩ := List.mem_map.mp ha
    have := h.two' b hb
    rw [← e] at this
    simp at this
theorem alphs_sub (ss : List Wd) : ∀ (k : Nat) (r : List Wd), r ∈ alphs ss k → r.Nodup ∧ ∀ s ∈ r, s ∈ ss
  | 0, r, h => by rw [List.mem_singleton.mp h]; exact ⟨List.nodup_nil, fun s h => nomatch h⟩
  | k + 1, r, h => by
    unfold alphs at h
    obtain ⟨l, hl, hr⟩ := List.mem_flatten.mp h
    obtain ⟨q, hq, rfl⟩ := List.mem_map.mp hl
    obtain ⟨s, hs, rfl⟩ := List.mem_map.mp hr
    obtain ⟨h1, h2⟩ := alphs_sub ss k q hq
    obtain ⟨h3, h4⟩ := List.mem_filter.mp hs
    refine ⟨?_, fun t ht => ?_⟩
    · rw [List.nodup_append]
      refine ⟨h1, by simp, fun a ha b hb e => ?_⟩
      rw [List.mem_singleton] at hb
      subst hb e
      simp [ha] at h4
    · rcases List.mem_append.mp ht with ht | ht
      · exact h2 t ht
      · rw [List.mem_singleton.mp ht]; exact h3
theorem perm_of {α : Type} [DecidableEq α] : ∀ {r ss : List α}, r.Nodup → (∀ s ∈ r, s ∈ ss) → r.length = ss.length → r.Perm ss
  | [], ss, _, _, h => by rw [List.eq_nil_of_length_eq_zero h.symm]
  | x :: r, ss, hn, hs, hl => by
    have hx := hs x (List.mem_cons_self)
    have hn2 := List.nodup_cons.mp hn
    refine ((perm_of (ss := ss.erase x) hn2.2 (fun s h => ?_) ?_).cons x).trans (List.perm_cons_erase hx).symm
    · exact (List.mem_erase_of_ne (fun e => hn2.1 (by rw [← e]; exact h) : s ≠ x)).mpr (hs s (List.mem_cons_of_mem _ h))
    · rw [List.length_erase_of_mem hx, ← hl]; rfl
theorem alps_perm {m : Mn} (h : m.Ok) {al : List Wd} (ha : al ∈ alps m) : al.Perm (signs m) := by
  obtain ⟨h1, h2⟩ := alphs_sub _ _ _ ha
  exact (perm_of h1 h2 (alphs_row _ _ _ ha)).trans (sort_perm _)
theorem alps_alp {m : Mn} (h : m.Ok) {al : List Wd} (ha : al ∈ alps m) : Alp m al := by
  have p := alps_perm h ha
  refine ⟨h, decide_eq_true (sort_eq p), ?_⟩
  rw [p.length_eq]
  have := signs_six h
  omega
theorem alphs_take (ss : List Wd) (hn : ss.Nodup) : ∀ k, k ≤ ss.length → ss.take k ∈ alphs ss k
  | 0, _ => by rw [List.take_zero]; exact List.mem_singleton.mpr rfl
  | k + 1, h => by
    have ih := alphs_take ss hn k (by omega)
    have hk : k < ss.length := by omega
    unfold alphs
    refine List.mem_flatten.mpr ⟨_, List.mem_map.mpr ⟨_, ih, rfl⟩, List.mem_map.mpr ⟨ss[k], List.mem_filter.mpr ⟨List.getElem_mem hk, ?_⟩, ?_⟩⟩
    · have hsp : (ss.take k ++ ss.drop k).Nodup := by rw [List.take_append_drop]; exact hn
      have hd := (List.nodup_append.mp hsp).2.2
      have : ss[k] ∈ ss.drop k := by rw [List.drop_eq_getElem_cons hk]; exact List.mem_cons_self
      simp only [Bool.not_eq_true', List.contains_eq_mem, decide_eq_false_iff_not]
      intro hc
      exact hd _ hc _ this rfl
    · rw [List.take_succ_eq_append_getElem hk]
theorem alps_ne {m : Mn} (h : m.Ok) : alps m ≠ [] := by
  have hn : (sortS (signs m)).Nodup := (sort_perm _).symm.nodup (signs_nd h)
  have := alphs_take (sortS (signs m)) hn _ (Nat.le_refl _)
  intro e
  unfold alps at e
  rw [e] at this
  cases this
theorem alps_len {m : Mn} (h : m.Ok) : (alps m).length ≤ 46656 := by
  have h6 : (sortS (signs m)).length ≤ 6 := by rw [sortS_len]; exact signs_six h
  exact Nat.le_trans (alphs_len _ _) (pow6 h6 h6)
theorem row_signs {m : Mn} : ∀ {w : Wd}, LetW m w → ∀ s ∈ rowL m.pairs w, s ∈ signs m
  | [], _, s, h => nomatch h
  | [a], hw, s, h => by
    rw [List.mem_singleton.mp h]
    exact List.mem_append_left _ (List.mem_map.mpr ⟨a, hw a (List.mem_singleton.mpr rfl), rfl⟩)
  | a :: b :: r, hw, s, h => by
    unfold rowL at h
    split at h
    · rename_i hc
      rcases List.mem_cons.mp h with rfl | h
      · exact List.mem_append_right _ (by simpa using hc)
      · exact row_signs (w := r) (fun c hc => hw c (List.mem_cons_of_mem _ (List.mem_cons_of_mem _ hc))) s h
    · rcases List.mem_cons.mp h with rfl | h
      · exact List.mem_append_left _ (List.mem_map.mpr ⟨a, hw a (List.mem_cons_self), rfl⟩)
      · exact row_signs (w := b :: r) (fun c hc => hw c (List.mem_cons_of_mem _ hc)) s h
theorem gd_of {m : Mn} (h : m.Ok) {al : List Wd} (ha : al ∈ alps m) {w : Wd} (hw : LetW m w) (hl : w.length ≤ 8) : Gd m al w :=
  ⟨by omega, fun s hs => (alps_perm h ha).mem_iff.mpr (row_signs hw s hs)⟩
/-- an alphabet is drawn -/
theorem r_some_alp {p : Nat} {m : Mn} (h : m.Ok) (hv : Vat S p) : ∃ (al : List Wd) (S' : Store), al ∈ alps m ∧ Dr p S S' ∧ run P (n + 2) 15 [.ptr p, lT (alps m)] S = .ok (tS al) S' :=
  r_some_m (fun r => tS r) hv (alps_ne h) (by have := alps_len h; omega)
theorem for_inv {F F2 : Orc} {tg : List Nat} {b : St} (I : Env → Store → Prop) : ∀ (xs : List PV), (∀ x ∈ xs, ∀ ρ S, I ρ S → ∃ ρ1, tgSet tg x ρ = some ρ1 ∧ ∃ ρ2 S2, evS b F F2 ρ1 S = .nx ρ2 S2 ∧ I ρ2 S2) → ∀ ρ S, I ρ S → ∃ ρ' S', foR F F2 ρ tg b xs S = .nx ρ' S' ∧ I ρ' S'
  | [], _, ρ, S, hi => ⟨ρ, S, rfl, hi⟩
  | x :: xs, h, ρ, S, hi => by
    obtain ⟨ρ1, h1, ρ2, S2, h2, h3⟩ := h x (List.mem_cons_self) ρ S hi
    obtain ⟨ρ', S', h4, h5⟩ := for_inv I xs (fun y hy => h y (List.mem_cons_of_mem _ hy)) ρ2 S2 h3
    refine ⟨ρ', S', ?_, h5⟩
    rw [fo_cons, h1, fo_t, h2, fo_nx, h4]
theorem cut_m1 {α : Type} (xs : List α) : cutL xs none (some (-1)) = xs.take (xs.length - 1) := by
  unfold cutL
  rw [HT.sIx_none]
  rw [show HT.sIx xs.length xs.length (some (-1)) = ((-1 : Int) + (xs.length : Int)).toNat by simp [HT.sIx], List.drop_zero, Nat.sub_zero]
  congr 1
  omega
end K
end G
set_option maxHeartbeats 1000000
namespace G
namespace K
open M L2
variable {n : Nat} {S : Store}
abbrev lB (bs : List Bool) : PV := .lst (bs.map PV.bl)
theorem Dt.bools (bs : List Bool) : Dt 1 (lB bs) := Dt.lst (d := 0) fun x hx => by obtain ⟨i, _, rfl⟩ := List.mem_map.mp hx; exact Dt.bl _
theorem any_bools (b : Bool) : ∀ bs : List Bool, ((bs.map PV.bl).any fun y => pveq y (.bl b)) = bs.contains b
  | [] => rfl
  | x :: bs => by
    rw [List.map_cons, List.any_cons, any_bools b bs, List.contains_cons]
    show ((x == b) || _) = _
    cases x <;> cases b <;> rfl
theorem b_notin_lB (b : Bool) (bs : List Bool) : b2 .notin (.bl b) (lB bs) S = .ok (.bl (!bs.contains b)) S := by
  show (if eqOk (lB bs) (.bl b) then rok (.bl (!(bs.map PV.bl).any fun y => pveq y (.bl b))) S else .bad) = _
  rw [(Dt.bools bs).ok (Dt.bl b) (by decide), any_bools]; rfl
theorem b_inn_lB (b : Bool) (bs : List Bool) : b2 .inn (.bl b) (lB bs) S = .ok (.bl (bs.contains b)) S := by
  show (if eqOk (lB bs) (.bl b) then rok (.bl ((bs.map PV.bl).any fun y => pveq y (.bl b))) S else .bad) = _
  rw [(Dt.bools bs).ok (Dt.bl b) (by decide), any_bools]; rfl
theorem pveqL_bools : ∀ (a b : List Bool), pveqL (a.map PV.bl) (b.map PV.bl) = decide (a = b)
  | [], [] => rfl
  | [], _ :: _ => rfl
  | _ :: _, [] => rfl
  | x :: a, y :: b => by
    show ((x == y) && pveqL _ _) = _
    rw [pveqL_bools a b, Bool.beq_eq_decide_eq, ← Bool.decide_and]
    simp only [List.cons.injEq]
theorem b_ne_lB (a b : List Bool) : b2 .ne (lB a) (lB b) S = .ok (.bl (!decide (a = b))) S := by
  show (if eqOk (lB a) (lB b) then rok (.bl (!pveqL (a.map PV.bl) (b.map PV.bl))) S else .bad) = _
  rw [(Dt.bools a).ok (Dt.bools b) (by decide), pveqL_bools]; rfl
theorem b_eq_lB (a b : List Bool) : b2 .eq (lB a) (lB b) S = .ok (.bl (decide (a = b))) S := by
  show (if eqOk (lB a) (lB b) then rok (.bl (pveqL (a.map PV.bl) (b.map PV.bl))) S else .bad) = _
  rw [(Dt.bools a).ok (Dt.bools b) (by decide), pveqL_bools]; rfl
theorem b_eq_bl (a b : Bool) : b2 .eq (.bl a) (.bl b) S = .ok (.bl (a == b)) S := rfl
theorem b_ne_bl (a b : Bool) : b2 .ne (.bl a) (.bl b) S = .ok (.bl (!(a == b))) S := rfl
def Ask.nd : Ask → PV
  | .non => .bl false
  | k => k.pv
theorem r_needs {m : Mn} (h : m.Ok) {a b : Wd} (la : a.length ≤ 1000) (lb : b.length ≤ 1000) (wa : hasW m a = true) (wb : hasW m b = true) : run P (n + 4) 70 [mP m, .str a, .str b] S = .ok (ask m a b).nd S := by
  rw [run_def l70 rfl]
  simp? only [f70, r_need_manner h, r_need_word wa, r_need_word wb, r_asked h.two' la lb]
  cases ask m a b <;> simp? only [Ask.pv, Ask.nd]
theorem need_wx {m : Mn} (h : m.Ok) {a b : PV} (e : run P (n + 3) 6 [mP m, a] S = .exc 2 .non S) : run P (n + 4) 70 [mP m, a, b] S = .exc 2 .non S := by
  rw [run_def l70 rfl]
  simp? only [f70, r_need_manner h, e]
theorem need_wx2 {m : Mn} (h : m.Ok) {a : Wd} {b : PV} (wa : hasW m a = true) (e : run P (n + 3) 6 [mP m, b] S = .exc 2 .non S) : run P (n + 4) 70 [mP m, .str a, b] S = .exc 2 .non S := by
  rw [run_def l70 rfl]
  simp? only [f70, r_need_manner h, r_need_word wa, e]
theorem fd_ne : ∀ {a b : List Wd} {p q : Wd}, fd a b = some (p, q) → p ≠ q
  | [], b, p, q, h => by simp [fd] at h
  | _ :: _, [], p, q, h => by simp [fd] at h
  | x :: a, y :: b, p, q, h => by
    unfold fd at h
    split at h
    · exact fd_ne h
    · rename_i e; cases h; exact e
theorem ul_ne {a b : List Wd} {p q : Wd} (h : ul a b = .pr p q) : p ≠ q := by
  unfold ul at h
  split at h
  · rename_i e; cases h; exact fd_ne e
  · split at h <;> cases h
theorem ask_ne {m : Mn} {a b : Wd} {p q : Wd} (h : ask m a b = .pr p q) : p ≠ q := by
  unfold ask askR at h
  split at h
  · exact ul_ne h
  · exact ul_ne h
theorem alphs_snoc (ss : List Wd) : ∀ (r : List Wd), r.Nodup → (∀ s ∈ r, s ∈ ss) → r ∈ alphs ss r.length := by
  intro r
  generalize hk : r.length = k
  induction k generalizing r with
  | zero => intro _ _; rw [List.eq_nil_of_length_eq_zero hk]; exact List.mem_singleton.mpr rfl
  | succ k ih =>
    intro hn hs
    have hne : r ≠ [] := fun e => by rw [e] at hk; cases hk
    have e := List.dropLast_concat_getLast hne
    have hl : r.dropLast.length = k := by rw [List.length_dropLast, hk]; rfl
    rw [← e] at hn
    have hn2 := List.nodup_append.mp hn
    have i := ih r.dropLast hl hn2.1 fun s h => hs s ((List.dropLast_sublist r).subset h)
    unfold alphs
    rw [← e]
    refine List.mem_flatten.mpr ⟨_, List.mem_map.mpr ⟨_, i, rfl⟩, List.mem_map.mpr ⟨r.getLast hne, List.mem_filter.mpr ⟨hs _ (List.getLast_mem hne), ?_⟩, rfl⟩⟩
    simp only [Bool.not_eq_true', List.contains_eq_mem, decide_eq_false_iff_not]
    intro hc
    exact hn2.2.2 _ hc _ (List.mem_singleton.mpr rfl) rfl
theorem alps_of {m : Mn} (h : m.Ok) {al : List Wd} (p : al.Perm (signs m)) : al ∈ alps m := by
  have p2 : al.Perm (sortS (signs m)) := p.trans (sort_perm _).symm
  have := alphs_snoc (sortS (signs m)) al (p.symm.nodup (signs_nd h)) fun s hs => p2.mem_iff.mp hs
  unfold alps
  rw [← p2.length_eq]
  exact this
theorem alps_iff {m : Mn} (h : m.Ok) {al : List Wd} : al ∈ alps m ↔ al.Perm (signs m) := ⟨alps_perm h, alps_of h⟩
theorem alps_lt {m : Mn} (h : m.Ok) {p q : Wd} (hp : p ∈ signs m) (hq : q ∈ signs m) (hpq : p ≠ q) : ∃ al ∈ alps m, al.idxOf p < al.idxOf q := by
  refine ⟨p :: (signs m).erase p, alps_of h (List.perm_cons_erase hp).symm, ?_⟩
  rw [List.idxOf_cons_self, List.idxOf_cons, beq_eq_false_iff_ne.mpr hpq]
  exact Nat.succ_pos _
end K
end G
set_option maxHeartbeats 1000000
namespace G
namespace K
open M L2
variable {n : Nat} {S : Store}
inductive Fk where
  | ah (a b : Wd) | bt (a b c : Wd) | so (ws : List Wd)
def Fk.pv : Fk → PV
  | .ah a b => .tup [.str [97, 104, 101, 97, 100], .str a, .str b]
  | .bt a b c => .tup [.str [98, 101, 116, 119, 101, 101, 110], .str a, .str b, .str c]
  | .so ws => .tup [.str [115, 111, 114, 116, 101, 100], tS ws]
def Fk.words : Fk → List Wd
  | .ah a b => [a, b]
  | .bt a b c => [a, b, c]
  | .so ws => ws
/-- a fact of a manner -/
def Fk.Ok (m : Mn) (f : Fk) : Prop := (∀ w ∈ f.words, LetW m w ∧ w.length ≤ 8) ∧ 2 ≤ f.words.length ∧ f.words.length ≤ 6
abbrev fS (fs : List Fk) : PV := .tup (fs.map Fk.pv)
theorem na_s : decide (([97, 104, 101, 97, 100] : Wd) = [115, 111, 114, 116, 101, 100]) = false := by decide
theorem nb_s : decide (([98, 101, 116, 119, 101, 101, 110] : Wd) = [115, 111, 114, 116, 101, 100]) = false := by decide
theorem na_b : decide (([97, 104, 101, 97, 100] : Wd) = [98, 101, 116, 119, 101, 101, 110]) = false := by decide
theorem nb_a : decide (([98, 101, 116, 119, 101, 101, 110] : Wd) = [97, 104, 101, 97, 100]) = false := by decide
theorem ns_a : decide (([115, 111, 114, 116, 101, 100] : Wd) = [97, 104, 101, 97, 100]) = false := by decide
theorem ns_b : decide (([115, 111, 114, 116, 101, 100] : Wd) = [98, 101, 116, 119, 101, 101, 110]) = false := by decide
theorem n_refl (a : Wd) : decide (a = a) = true := decide_eq_true rfl
theorem cut_c1 {α : Type} (x : α) (xs : List α) : cutL (x :: xs) (some 1) none = xs := by
  rw [cut_drop1]; rfl
theorem c_t1 (x : PV) (xs : List PV) : slc false (.tup (x :: xs)) (some 1) none S = .ok (.tup xs) S := by
  rw [c_tup, cut_drop1]; rfl
theorem Fk.dt (f : Fk) : Dt 2 f.pv := by
  have str1 : ∀ s : Wd, Dt 1 (.str s) := fun s => (Dt.str s).mono (by decide)
  cases f with
  | ah a b =>
    refine Dt.tup (d := 1) fun x hx => ?_
    simp only [List.mem_cons, List.not_mem_nil, or_false] at hx
    rcases hx with rfl | rfl | rfl <;> exact str1 _
  | bt a b c =>
    refine Dt.tup (d := 1) fun x hx => ?_
    simp only [List.mem_cons, List.not_mem_nil, or_false] at hx
    rcases hx with rfl | rfl | rfl | rfl <;> exact str1 _
  | so ws =>
    refine Dt.tup (d := 1) fun x hx => ?_
    simp only [List.mem_cons, List.not_mem_nil, or_false] at hx
    rcases hx with rfl | rfl
    · exact str1 _
    · exact Dt.tupS ws
theorem b_eq_nilI (is : List Nat) : b2 .eq (.lst (is.map fun i : Nat => PV.int (i : Nat))) (.lst []) S = .ok (.bl is.isEmpty) S := by
  rw [b_eq_nil (d := 0) (fun x hx => by obtain ⟨s, _, rfl⟩ := List.mem_map.mp hx; exact Dt.int _), List.isEmpty_map]
theorem b_eq_nilF (fs : List Fk) : b2 .eq (.lst (fs.map Fk.pv)) (.lst []) S = .ok (.bl fs.isEmpty) S := by
  rw [b_eq_nil (d := 2) (fun x hx => by obtain ⟨s, _, rfl⟩ := List.mem_map.mp hx; exact Fk.dt s), List.isEmpty_map]
theorem b_eq_nilT (als : List (List Wd)) : b2 .eq (lT als) (.lst []) S = .ok (.bl als.isEmpty) S := by
  rw [b_eq_nil (d := 1) (fun x hx => by obtain ⟨s, _, rfl⟩ := List.mem_map.mp hx; exact Dt.tupS s), List.isEmpty_map]
theorem b_ne_nilT (als : List (List Wd)) : b2 .ne (lT als) (.lst []) S = .ok (.bl (!als.isEmpty)) S := by
  rw [b_ne_nil (d := 1) (fun x hx => by obtain ⟨s, _, rfl⟩ := List.mem_map.mp hx; exact Dt.tupS s), List.isEmpty_map]
/-- none of them is ahead of the one before it -/
def srtB (lt : Wd → Wd → Bool) (ws : List Wd) : Bool := (List.range (ws.length - 1)).all fun i => !lt ws[i + 1]! ws[i]!
def rowB (lt : Wd → Wd → Bool) (ws : List Wd) : Bool := (List.range (ws.length - 1)).all fun i => lt ws[i]! ws[i + 1]!
def so (m : Mn) (al : List Wd) : Fk → Bool
  | .ah a b => ahead m al a b
  | .bt a b c => (ahead m al a b && ahead m al b c) || (ahead m al c b && ahead m al b a)
  | .so ws => srtB (ahead m al) ws
theorem getB {ws : List Wd} {i : Nat} (h : i < ws.length) : ws[i]! ∈ ws := by simp [h]
theorem r_is_sorted {m : Mn} {al ws : List Wd} (hT : m.Two) (hl : ws.length ≤ 1000) (hg : ∀ w ∈ ws, Gd m al w) : run P (n + 4) 73 [mP m, tS al, tS ws] S = .ok (.bl (srtB (ahead m al) ws)) S := by
  rw [run_def l73 rfl]
  simp? only [f73, List.length_map]
  rw [k_rng_p _ (by omega)]
  simp? only []
  rw [lc_map (fun i : Nat => PV.int (i : Nat)) (fun i => ahead m al ws[i + 1]! ws[i]!) (fun i : Nat => PV.int (i : Nat)) (fun i hi => ⟨_, rfl, by
    have hi := List.mem_range.mp hi
    simp? only [idx_tS1 ws i (by omega), idx_tS ws i (by omega), r_is_ahead hT (hg _ (getB (show i + 1 < ws.length by omega))) (hg _ (getB (show i < ws.length by omega)))], fun _ => by simp? only []⟩)]
  simp? only [b_eq_nilI, empty_filter]
  rfl
theorem r_is_row {m : Mn} {al ws : List Wd} (hT : m.Two) (hl : ws.length ≤ 1000) (hg : ∀ w ∈ ws, Gd m al w) : run P (n + 4) 76 [mP m, tS al, tS ws] S = .ok (.bl (rowB (ahead m al) ws)) S := by
  rw [run_def l76 rfl]
  simp? only [f76, List.length_map]
  rw [k_rng_p _ (by omega)]
  simp? only []
  rw [lc_map (fun i : Nat => PV.int (i : Nat)) (fun i => !ahead m al ws[i]! ws[i + 1]!) (fun i : Nat => PV.int (i : Nat)) (fun i hi => ⟨_, rfl, by
    have hi := List.mem_range.mp hi
    simp? only [idx_tS1 ws i (by omega), idx_tS ws i (by omega), r_is_ahead hT (hg _ (getB (show i < ws.length by omega))) (hg _ (getB (show i + 1 < ws.length by omega)))], fun _ => by simp? only []⟩)]
  simp? only [b_eq_nilI, empty_filter, Bool.not_not]
  rfl
theorem r_is_so {m : Mn} {al : List Wd} (hT : m.Two) {f : Fk} (hl : f.words.length ≤ 1000) (hg : ∀ w ∈ f.words, Gd m al w) : run P (n + 5) 77 [mP m, tS al, f.pv] S = .ok (.bl (so m al f)) S := by
  rw [run_def l77 rfl]
  cases f with
  | ah a b =>
    have e : run P (n + 4) 76 [mP m, tS al, .tup [.str a, .str b]] S = .ok (.bl (rowB (ahead m al) [a, b])) S := r_is_row (ws := [a, b]) hT hl hg
    simp? only [f77, Fk.pv, na_s, na_b, cut_c1, e]
    simp [rowB, so]
  | bt a b c =>
    have e : run P (n + 4) 76 [mP m, tS al, .tup [.str a, .str b, .str c]] S = .ok (.bl (rowB (ahead m al) [a, b, c])) S := r_is_row (ws := [a, b, c]) hT hl hg
    have e2 : run P (n + 4) 76 [mP m, tS al, .tup [.str c, .str b, .str a]] S = .ok (.bl (rowB (ahead m al) [c, b, a])) S := r_is_row (ws := [c, b, a]) hT hl fun w hw => hg w (by
      simp only [Fk.words, List.mem_cons, List.not_mem_nil, or_false] at hw ⊢
      rcases hw with rfl | rfl | rfl <;> simp)
    have e3 : ∀ x : PV, slc true (.tup [x, .str a, .str b, .str c]) none (some 0) S = .ok (.tup [.str c, .str b, .str a]) S := fun x => rfl
    simp? only [f77, Fk.pv, nb_s, n_refl, cut_c1, e, e2, e3]
    have r1 : ∀ x y z, rowB (ahead m al) [x, y, z] = (ahead m al x y && ahead m al y z) := fun x y z => by
      simp [rowB, List.range, List.range.loop]
    rw [r1, r1]
    rfl
  | so ws =>
    simp? only [f77, Fk.pv, n_refl, r_is_sorted (ws := ws) hT hl hg]
    rfl
def sos (m : Mn) (al : List Wd) (fs : List Fk) : Bool := fs.all (so m al)
def GdF (m : Mn) (al : List Wd) (f : Fk) : Prop := f.words.length ≤ 1000 ∧ ∀ w ∈ f.words, Gd m al w
theorem r_are_so {m : Mn} {al : List Wd} (hT : m.Two) {fs : List Fk} (hg : ∀ f ∈ fs, GdF m al f) : run P (n + 6) 78 [mP m, tS al, fS fs] S = .ok (.bl (sos m al fs)) S := by
  rw [run_def l78 rfl]
  simp? only [f78]
  rw [lc_map Fk.pv (fun f => !so m al f) Fk.pv (fun f hf => ⟨_, rfl, by simp? only [r_is_so hT (hg f hf).1 (hg f hf).2], fun _ => by simp? only []⟩)]
  simp? only [b_eq_nilF, empty_filter, Bool.not_not]
  rfl
def kept (m : Mn) (fs : List Fk) : List (List Wd) := (alps m).filter fun al => sos m al fs
theorem Fk.Ok.gd {m : Mn} (h : m.Ok) {f : Fk} (hf : f.Ok m) {al : List Wd} (ha : al ∈ alps m) : GdF m al f := ⟨by have := hf.2.2; omega, fun w hw => gd_of h ha (hf.1 w hw).1 (hf.1 w hw).2⟩
theorem r_kept_by {m : Mn} (h : m.Ok) {fs : List Fk} (hf : ∀ f ∈ fs, f.Ok m) : run P (n + 7) 79 [mP m, fS fs] S = .ok (lT (kept m fs)) S := by
  rw [run_def l79 rfl]
  simp? only [f79, r_all_alphabets h]
  rw [lc_map (fun r => tS r) (fun al => sos m al fs) (fun r => tS r) (fun al hal => ⟨_, rfl, by simp? only [r_are_so h.two' fun f hff => (hf f hff).gd h hal], fun _ => by simp? only []⟩)]
  simp? only []
  rfl
/-- what is told of a claim by some alphabets -/
def told (m : Mn) (als : List (List Wd)) (f : Fk) : PV :=
  if als = [] ∨ ((als.filter fun al => so m al f) ≠ [] ∧ (als.filter fun al => so m al f).length < als.length) then .non else .bl (decide (0 < (als.filter fun al => so m al f).length))
theorem r_told_by {m : Mn} (hT : m.Two) {als : List (List Wd)} {f : Fk} (hg : ∀ al ∈ als, GdF m al f) : run P (n + 6) 80 [mP m, lT als, f.pv] S = .ok (told m als f) S := by
  rw [run_def l80 rfl]
  simp? only [f80]
  rw [lc_map (fun r => tS r) (fun al => so m al f) (fun r => tS r) (fun al hal => ⟨_, rfl, by simp? only [r_is_so hT (hg al hal).1 (hg al hal).2], fun _ => by simp? only []⟩)]
  simp? only [b_eq_nilT, b_ne_nilT, List.length_map]
  unfold told
  generalize (als.filter fun al => so m al f) = good
  have e1 : als.isEmpty = decide (als = []) := by cases als <;> rfl
  have e2 : good.isEmpty = decide (good = []) := by cases good <;> rfl
  rw [e1, e2]
  by_cases h1 : als = []
  · simp [h1, mIte]
  · by_cases h2 : good = []
    · simp [h1, h2, mIte]
    · by_cases h3 : good.length < als.length
      · have h3' : (good.length : Int) < als.length := by omega
        simp [h1, h2, h3, mIte]
      · simp [h1, h2, h3, mIte]
theorem Fk.Ok.hasW {m : Mn} {f : Fk} (hf : f.Ok m) : ∀ w ∈ f.words, hasW m w = true := fun w hw => (hf.1 w hw).1.hasW (hf.1 w hw).2
theorem areW_ok {m : Mn} {ws : List Wd} {a b : Int} (h : ∀ w ∈ ws, hasW m w = true) (h1 : a ≤ ws.length) (h2 : (ws.length : Int) ≤ b) : areW m ws a b = true := by
  unfold areW
  simp only [Bool.and_eq_true, decide_eq_true_eq, List.all_eq_true]
  exact ⟨⟨h1, h2⟩, h⟩
theorem r_is_fact {m : Mn} {f : Fk} (hf : f.Ok m) : run P (n + 4) 33 [mP m, f.pv] S = .ok (.bl true) S := by
  rw [run_def l33 rfl]
  have hw := hf.hasW
  have two : decide ((0 + 1 + 1 : Int) < 2) = false := by decide
  cases f with
  | ah a b =>
    have e : run P (n + 3) 32 [mP m, .tup [.str a, .str b], .int 2, .int 2] S = .ok (.bl (areW m [a, b] 2 2)) S := r_are_words m [a, b] 2 2
    rw [areW_ok (ws := [a, b]) hw (by simp) (by simp)] at e
    simp? only [f33, Fk.pv, n_refl, cut_c1, e, show decide ((((0 + 1 + 1 + 1 : Nat)) : Int) < 2) = false by decide]
  | bt a b c =>
    have e : run P (n + 3) 32 [mP m, .tup [.str a, .str b, .str c], .int 3, .int 3] S = .ok (.bl (areW m [a, b, c] 3 3)) S := r_are_words m [a, b, c] 3 3
    rw [areW_ok (ws := [a, b, c]) hw (by simp) (by simp)] at e
    simp? only [f33, Fk.pv, n_refl, nb_a, cut_c1, e, show decide ((((0 + 1 + 1 + 1 + 1 : Nat)) : Int) < 2) = false by decide]
  | so ws =>
    have e := r_are_words (n := n) (S := S) m ws 2 6
    rw [areW_ok (ws := ws) hw (by have := hf.2.1; simp only [Fk.words] at this; omega) (by have := hf.2.2; simp only [Fk.words] at this; omega)] at e
    simp? only [f33, Fk.pv, n_refl, ns_a, ns_b, e, show decide ((((0 + 1 + 1 : Nat)) : Int) < 2) = false by decide, show decide ((((0 + 1 + 1 : Nat)) : Int) = 2) = true by decide]
theorem r_has_facts {m : Mn} {fs : List Fk} (hf : ∀ f ∈ fs, f.Ok m) (hl : fs.length ≤ 5) : run P (n + 5) 34 [mP m, fS fs] S = .ok (.bl true) S := by
  rw [run_def l34 rfl]
  simp? only [f34, List.length_map, show decide ((5 : Int) < (fs.length : Int)) = false from decide_eq_false (by omega)]
  rw [lc_map Fk.pv (fun f => false) Fk.pv (fun f hff => ⟨_, rfl, by simp? only [r_is_fact (hf f hff)], fun h => nomatch h⟩), map_filter_nil _ _ fun _ _ => rfl]
  simp? only []
theorem r_need_facts {m : Mn} {fs : List Fk} (hf : ∀ f ∈ fs, f.Ok m) (hl : fs.length ≤ 5) : run P (n + 6) 74 [mP m, fS fs] S = .ok .non S := by
  rw [run_def l74 rfl]
  simp? only [f74, r_has_facts hf hl]
theorem r_need_fact {m : Mn} {f : Fk} (hf : f.Ok m) : run P (n + 5) 75 [mP m, f.pv] S = .ok .non S := by
  rw [run_def l75 rfl]
  simp? only [f75, r_is_fact hf]
theorem r_count {m : Mn} (h : m.Ok) {fs : List Fk} (hf : ∀ f ∈ fs, f.Ok m) (hl : fs.length ≤ 5) : run P (n + 8) 82 [mP m, fS fs] S = .ok (.int (kept m fs).length) S := by
  rw [run_def l82 rfl]
  simp? only [f82, r_need_manner h, r_need_facts hf hl, r_kept_by h hf, List.length_map]
def firstV (als : List (List Wd)) : PV := match als with
  | [] => .non
  | al :: _ => tS al
theorem b_idx_lT0 (x : List Wd) (r : List (List Wd)) : b2 .idx (lT (x :: r)) (.int 0) S = .ok (tS x) S := b_idx_l0 _ _
theorem r_first {m : Mn} (h : m.Ok) {fs : List Fk} (hf : ∀ f ∈ fs, f.Ok m) (hl : fs.length ≤ 5) : run P (n + 8) 83 [mP m, fS fs] S = .ok (firstV (kept m fs)) S := by
  rw [run_def l83 rfl]
  simp? only [f83, r_need_manner h, r_need_facts hf hl, r_kept_by h hf, b_ne_nilT]
  cases kept m fs with
  | nil => simp? only [List.isEmpty_nil]; rfl
  | cons x r => simp? only [List.isEmpty_cons, b_idx_lT0]; rfl
theorem r_keeps {m : Mn} (h : m.Ok) {fs : List Fk} (hf : ∀ f ∈ fs, f.Ok m) (hl : fs.length ≤ 5) {al : List Wd} (ha : al ∈ alps m) : run P (n + 7) 81 [mP m, fS fs, tS al] S = .ok (.bl (sos m al fs)) S := by
  have A := alps_alp h ha
  rw [run_def l81 rfl]
  simp? only [f81, r_need_manner h, r_need_facts hf hl, r_need_alphabet h.pl A.len A.has, r_are_so h.two' fun f hff => (hf f hff).gd h ha]
theorem r_follows {m : Mn} (h : m.Ok) {fs : List Fk} (hf : ∀ f ∈ fs, f.Ok m) (hl : fs.length ≤ 5) {f : Fk} (hc : f.Ok m) : run P (n + 8) 84 [mP m, fS fs, f.pv] S = .ok (told m (kept m fs) f) S := by
  rw [run_def l84 rfl]
  simp? only [f84, r_need_manner h, r_need_facts hf hl, r_need_fact hc, r_kept_by h hf, r_told_by (als := kept m fs) h.two' fun al hal => hc.gd h (List.mem_filter.mp hal).1]
end K
end G
set_option maxHeartbeats 1000000
namespace G
namespace K
open M L2
def f86_b0 : St := .seq (.ifs (.bin .eq (.com (.var 4) [4] (.iseq (.var 1)) (.not (.cal 85 (.cons (.var 0) (.cons (.var 3) (.cons (.var 4) .nil))))) [4]) (.lst .nil)) (.seq (.exp (.mth .append (.var 2) (.cons (.var 3) .nil))) .nop) .nop) .nop
theorem n86 : f86.body = .seq (.asg 2 (.mut (.lst .nil))) (.seq (.for [3] (.iseq (.cal 22 (.cons (.var 0) .nil))) f86_b0) (.seq (.ret (.var 2)) .nop)) := by rfl
def f88_b0 : St := .seq (.asg 6 (.cal 49 (.cons (.var 0) (.cons (.var 1) .nil)))) (.seq (.ifs (.and (.bin .eq (.bin .idx (.var 6) (.cst (.int 0))) (.cst (.str [115, 111, 114, 116, 101, 100]))) (.bin .gt (.cal 14 (.cons (.var 0) (.cons (.cst (.int 4)) .nil))) (.cst (.int 0)))) (.seq (.asg 6 (.tup (.cons (.bin .idx (.var 6) (.cst (.int 0))) (.cons (.cal 68 (.cons (.var 1) (.cons (.var 4) (.cons (.bin .idx (.var 6) (.cst (.int 1))) .nil)))) .nil)))) .nop) .nop) (.seq (.ifs (.or (.cal 85 (.cons (.var 1) (.cons (.var 4) (.cons (.var 6) .nil)))) (.bin .eq (.cal 14 (.cons (.var 0) (.cons (.cst (.int 6)) .nil))) (.cst (.int 0)))) (.seq (.asg 5 (.bin .add (.var 5) (.tup (.cons (.var 6) .nil)))) .nop) .nop) .nop))
theorem n88 : f88.body = .seq (.par [4, 5] (.cons (.cal 15 (.cons (.var 0) (.cons (.cal 22 (.cons (.var 1) .nil)) .nil))) (.cons (.tup .nil) .nil))) (.seq (.for [3] (.irng (.cal 14 (.cons (.var 0) (.cons (.bin .add (.var 2) (.cst (.int 1))) .nil)))) f88_b0) (.seq (.ret (.var 5)) .nop)) := by rfl
variable {n : Nat} {S : Store}
def kP (m : Mn) (al : List Wd) (w : Wd) : PV := .tup [lI (idxs al (strip m (rowL m.pairs w))), lI (idxs al (rowL m.pairs w))]
theorem kP_dt (m : Mn) (al : List Wd) (w : Wd) : Dt 2 (kP m al w) := Dt.tup (d := 1) fun z hz => by
  rcases List.mem_cons.mp hz with rfl | hz
  · exact Dt.ints _
  · rw [List.mem_singleton.mp hz]; exact Dt.ints _
theorem kP_alk (m : Mn) (al : List Wd) (a b : Wd) : pvalk (kP m al a) (kP m al b) = true := by
  show (pvalkL _ _ && (pvalkL _ _ && true)) = true
  rw [pvalkL_ints, pvalkL_ints]; rfl
theorem kP_lt {m : Mn} {al : List Wd} {a b : Wd} (ha : Gd m al a) : pvlt (kP m al a) (kP m al b) = ahead m al a b := by
  rw [← keyLt_ahead ha.2]
  show (if pveqL _ _ = true then (if pveqL _ _ = true then false else pvltL _ _) else pvltL _ _) = _
  rw [pveqL_ints, pveqL_ints, pvltL_ints, pvltL_ints]
  unfold keyLt
  generalize idxs al (strip m (rowL m.pairs a)) = a1
  generalize idxs al (strip m (rowL m.pairs b)) = c1
  generalize idxs al (rowL m.pairs a) = a2
  generalize idxs al (rowL m.pairs b) = c2
  by_cases h : a1 = c1
  · simp only [h, decide_true, if_true]
    by_cases h2 : a2 = c2
    · simp only [h2, decide_true, if_true]
      exact (lexN_irr c2).symm
    · simp only [h2, decide_false, Bool.false_eq_true, if_false]
  · simp only [h, decide_false, Bool.false_eq_true, if_false]
theorem kP_eq {m : Mn} {al : List Wd} {a b : Wd} (ha : Gd m al a) : pveq (kP m al a) (kP m al b) = decide (a = b) := by
  show (pveqL _ _ && (pveqL _ _ && true)) = _
  rw [pveqL_ints, pveqL_ints, Bool.and_true, ← Bool.decide_and]
  refine decide_eq_decide.mpr ⟨fun h => rowL_inj (idxs_inj ha.2 h.2), fun h => ?_⟩
  subst h
  exact ⟨rfl, rfl⟩
theorem b_lt_kP {m : Mn} {al : List Wd} {a b : Wd} (ha : Gd m al a) : b2 .lt (kP m al a) (kP m al b) S = .ok (.bl (ahead m al a b)) S := by
  unfold kP
  rw [b_lt_key, keyLt_ahead ha.2]
theorem kP_eqL {m : Mn} {al : List Wd} : ∀ {a b : List Wd}, (∀ w ∈ a, Gd m al w) → pveqL (a.map (kP m al)) (b.map (kP m al)) = decide (a = b)
  | [], [], _ => rfl
  | [], _ :: _, _ => rfl
  | _ :: _, [], _ => rfl
  | x :: a, y :: b, h => by
    show (pveq (kP m al x) (kP m al y) && pveqL (a.map (kP m al)) (b.map (kP m al))) = _
    rw [kP_eq (h x (List.mem_cons_self)), kP_eqL fun w hw => h w (List.mem_cons_of_mem _ hw), ← Bool.decide_and]
    simp only [List.cons.injEq]
/-- insertion as sorted does it -/
def wins (lt : Wd → Wd → Bool) (x : Wd) : List Wd → List Wd
  | [] => [x]
  | y :: r => if lt y x then y :: wins lt x r else x :: y :: r
def wsort (lt : Wd → Wd → Bool) : List Wd → List Wd
  | [] => []
  | x :: r => wins lt x (wsort lt r)
theorem wins_mem {lt : Wd → Wd → Bool} {x y : Wd} : ∀ {l : List Wd}, y ∈ wins lt x l → y = x ∨ y ∈ l
  | [], h => .inl (List.mem_singleton.mp h)
  | z :: r, h => by
    unfold wins at h
    split at h
    · rcases List.mem_cons.mp h with rfl | h
      · exact .inr (List.mem_cons_self)
      · rcases wins_mem h with h | h
        · exact .inl h
        · exact .inr (List.mem_cons_of_mem _ h)
    · rcases List.mem_cons.mp h with h | h
      · exact .inl h
      · exact .inr h
theorem wsort_mem {lt : Wd → Wd → Bool} {y : Wd} : ∀ {l : List Wd}, y ∈ wsort lt l → y ∈ l
  | [], h => h
  | x :: r, h => by
    rcases wins_mem h with rfl | h
    · exact List.mem_cons_self
    · exact List.mem_cons_of_mem _ (wsort_mem h)
theorem pins_kP {m : Mn} {al : List Wd} (x : Wd) : ∀ {l : List Wd}, (∀ w ∈ l, Gd m al w) → pins (kP m al x) (l.map (kP m al)) = (wins (ahead m al) x l).map (kP m al)
  | [], _ => rfl
  | y :: r, h => by
    show (if pvlt (kP m al y) (kP m al x) then kP m al y :: pins (kP m al x) (r.map (kP m al)) else kP m al x :: kP m al y :: r.map (kP m al)) = _
    rw [kP_lt (h y (List.mem_cons_self)), pins_kP x fun w hw => h w (List.mem_cons_of_mem _ hw)]
    show _ = List.map (kP m al) (if ahead m al y x = true then y :: wins (ahead m al) x r else x :: y :: r)
    cases ahead m al y x <;> rfl
theorem psort_kP {m : Mn} {al : List Wd} : ∀ {l : List Wd}, (∀ w ∈ l, Gd m al w) → psort (l.map (kP m al)) = (wsort (ahead m al) l).map (kP m al)
  | [], _ => rfl
  | x :: r, h => by
    show pins (kP m al x) (psort (r.map (kP m al))) = _
    rw [psort_kP fun w hw => h w (List.mem_cons_of_mem _ hw), pins_kP x fun w hw => h w (List.mem_cons_of_mem _ (wsort_mem hw))]
    rfl
theorem p_sorted_kP {m : Mn} {al ws : List Wd} (hw : ws ≠ []) (hl : ws.length ≤ 1000) (hg : ∀ w ∈ ws, Gd m al w) : pri .sorted [.lst (ws.map (kP m al))] S = .ok (.lst ((wsort (ahead m al) ws).map (kP m al))) S := by
  show (match allS (ws.map (kP m al)) with | some ss => if ss.length < 64 then rok (.lst ((sortS ss).map .str)) S else .bad | none => if sortOk (ws.map (kP m al)) then rok (.lst (psort (ws.map (kP m al)))) S else .bad) = _
  have e1 : allS (ws.map (kP m al)) = none := by
    cases ws with
    | nil => exact absurd rfl hw
    | cons x r => rfl
  have e2 : sortOk (ws.map (kP m al)) = true := by
    unfold sortOk
    simp only [Bool.and_eq_true, List.all_eq_true, decide_eq_true_eq, Bool.or_eq_true, List.length_map]
    refine .inr ⟨⟨⟨fun x hx y hy => ?_, fun x hx => ?_⟩, .inl fun x hx => ?_⟩, by omega⟩
    · obtain ⟨a, _, rfl⟩ := List.mem_map.mp hx
      obtain ⟨b, _, rfl⟩ := List.mem_map.mp hy
      exact kP_alk m al a b
    · obtain ⟨a, _, rfl⟩ := List.mem_map.mp hx
      obtain ⟨i, h1, h2⟩ := kP_dt m al a
      rw [h1]
      exact decide_eq_true (by omega)
    · obtain ⟨a, _, rfl⟩ := List.mem_map.mp hx
      rfl
  rw [e1]
  simp only [e2, if_true]
  rw [psort_kP hg]
  rfl
theorem b_eq_kPL {m : Mn} {al a b : List Wd} (ha : ∀ w ∈ a, Gd m al w) : b2 .eq (.lst (a.map (kP m al))) (.lst (b.map (kP m al))) S = .ok (.bl (decide (a = b))) S := by
  have d : ∀ l : List Wd, Dt 3 (.lst (l.map (kP m al))) := fun l => Dt.lst (d := 2) fun x hx => by
    obtain ⟨w, _, rfl⟩ := List.mem_map.mp hx
    exact kP_dt m al w
  show (if eqOk (.lst (a.map (kP m al))) (.lst (b.map (kP m al))) then rok (.bl (pveqL (a.map (kP m al)) (b.map (kP m al)))) S else .bad) = _
  rw [(d a).ok (d b) (by decide), kP_eqL ha]
  rfl
theorem srtB_cons (lt : Wd → Wd → Bool) (x y : Wd) (r : List Wd) : srtB lt (x :: y :: r) = (!lt y x && srtB lt (y :: r)) := by
  unfold srtB
  rw [show (x :: y :: r).length - 1 = (y :: r).length - 1 + 1 by simp, List.range_succ_eq_map, List.all_cons, List.all_map]
  rfl
theorem wsort_id {lt : Wd → Wd → Bool} : ∀ {ws : List Wd}, srtB lt ws = true → wsort lt ws = ws
  | [], _ => rfl
  | [x], _ => rfl
  | x :: y :: r, h => by
    rw [srtB_cons, Bool.and_eq_true] at h
    show wins lt x (wsort lt (y :: r)) = _
    rw [wsort_id h.2]
    unfold wins
    rw [if_neg (by simpa using h.1)]
theorem wins_srt {lt : Wd → Wd → Bool} {T : Wd → Prop} (o : TO lt T) {x : Wd} : ∀ {l : List Wd}, T x → (∀ w ∈ l, T w) → srtB lt l = true → srtB lt (wins lt x l) = true
  | [], _, _, _ => rfl
  | [y], hx, hl, _ => by
    unfold wins
    split
    · rename_i h
      show srtB lt [y, x] = true
      rw [srtB_cons, o.asym (hl y (List.mem_cons_self)) hx h]; rfl
    · rename_i h
      rw [srtB_cons]
      simp [h, srtB]
  | y :: z :: r, hx, hl, h => by
    have h' := h
    rw [srtB_cons, Bool.and_eq_true] at h
    have ih := wins_srt o (x := x) (l := z :: r) hx (fun w hw => hl w (List.mem_cons_of_mem _ hw)) h.2
    unfold wins
    split
    · rename_i hyx
      have hxy := o.asym (hl y (List.mem_cons_self)) hx hyx
      have e : ∃ q t, wins lt x (z :: r) = q :: t ∧ lt q y = false := by
        unfold wins
        split
        · exact ⟨_, _, rfl, by simpa using h.1⟩
        · exact ⟨_, _, rfl, hxy⟩
      obtain ⟨q, t, e, hq⟩ := e
      rw [e] at ih ⊢
      rw [srtB_cons, hq, ih]; rfl
    · rename_i hyx
      rw [srtB_cons, h']
      simp [hyx]
theorem wsort_srt {lt : Wd → Wd → Bool} {T : Wd → Prop} (o : TO lt T) : ∀ {ws : List Wd}, (∀ w ∈ ws, T w) → srtB lt (wsort lt ws) = true
  | [], _ => rfl
  | x :: r, h => wins_srt o (h x (List.mem_cons_self)) (fun w hw => h w (List.mem_cons_of_mem _ (wsort_mem hw))) (wsort_srt o fun w hw => h w (List.mem_cons_of_mem _ hw))
theorem srt_iff {lt : Wd → Wd → Bool} {T : Wd → Prop} (o : TO lt T) {ws : List Wd} (h : ∀ w ∈ ws, T w) : decide (ws = wsort lt ws) = srtB lt ws := by
  cases e : srtB lt ws with
  | true => exact decide_eq_true (wsort_id e).symm
  | false =>
    refine decide_eq_false fun z => ?_
    have := wsort_srt o h
    rw [← z, e] at this
    cases this
/-- a fact's truth, the law's way -/
def Gd8 (m : Mn) (al : List Wd) (f : Fk) : Prop := f.words ≠ [] ∧ f.words.length ≤ 1000 ∧ ∀ w ∈ f.words, w.length ≤ 8 ∧ Gd m al w
theorem keys_lc {F F2 : Orc} {m : Mn} {al ws : List Wd} (hF : ∀ w ∈ ws, F 66 [mP m, tS al, .str w] S = .ok (kP m al w) S) (x2 x3 x4 x6 : Option PV) :
    lcR F F2 [some (mP m), some (tS al), x2, x3, x4, none, x6] (.cal 66 (.cons (.var 0) (.cons (.var 1) (.cons (.var 5) .nil)))) (.cst (.bl true)) [5] (ws.map .str) S = .ok (ws.map (kP m al)) S :=
  lc_all PV.str (kP m al) fun w hw => ⟨_, rfl, by simp? only [hF w hw]⟩
theorem idx_kP (m : Mn) (al ws : List Wd) (k : Nat) (h : k < ws.length) : b2 .idx (.lst (ws.map (kP m al))) (.int (k : Int)) S = .ok (kP m al ws[k]!) S := idxl_nat _ _ _ (by rw [List.getElem?_map, List.getElem?_eq_getElem h]; simp [h])
theorem idx_kP1 (m : Mn) (al ws : List Wd) (k : Nat) (h : k + 1 < ws.length) : b2 .idx (.lst (ws.map (kP m al))) (.int ((k : Int) + 1)) S = .ok (kP m al ws[k + 1]!) S := idx_kP m al ws (k + 1) h
theorem r_law_so {m : Mn} {al : List Wd} (hT : m.Two) {f : Fk} (hg : Gd8 m al f) : run P (n + 11) 85 [mP m, tS al, f.pv] S = .ok (.bl (so m al f)) S := by
  have key : ∀ w, w.length ≤ 8 → Gd m al w → run P (n + 10) 66 [mP m, tS al, .str w] S = .ok (kP m al w) S := fun w h1 h2 => r_law_key hT h1 h2
  -- the rows of two and three
  have rows : ∀ (ws : List Wd), ws.length ≤ 1000 → (∀ w ∈ ws, w.length ≤ 8 ∧ Gd m al w) → ∀ (x2 x4 : Option PV), lcR (run P (n + 10)) (run P (n + 10 - 2)) [some (mP m), some (tS al), x2, some (.lst (ws.map (kP m al))), x4, none, none] (.var 6) (.not (.bin .lt (.bin .idx (.var 3) (.var 6)) (.bin .idx (.var 3) (.bin .add (.var 6) (.cst (.int 1)))))) [6] ((List.range (ws.length - 1)).map fun i => PV.int (i : Nat)) S
      = .ok (((List.range (ws.length - 1)).filter fun i => !ahead m al ws[i]! ws[i + 1]!).map fun i : Nat => PV.int (i : Nat)) S := fun ws hl hw x2 x4 =>
    lc_map (fun i : Nat => PV.int (i : Nat)) (fun i => !ahead m al ws[i]! ws[i + 1]!) (fun i : Nat => PV.int (i : Nat)) fun i hi => ⟨_, rfl, by
      have hi := List.mem_range.mp hi
      simp? only [idx_kP m al ws i (by omega), idx_kP1 m al ws i (by omega), b_lt_kP (hw _ (getB (show i < ws.length by omega))).2], fun _ => by simp? only []⟩
  rw [run_def l85 rfl]
  cases f with
  | so ws =>
    obtain ⟨h1, h2, h3⟩ := hg
    have h1 : ws ≠ [] := h1
    have h2 : ws.length ≤ 1000 := h2
    have h3 : ∀ w ∈ ws, w.length ≤ 8 ∧ Gd m al w := h3
    simp? only [f85, Fk.pv, n_refl]
    rw [keys_lc fun w hw => key w (h3 w hw).1 (h3 w hw).2]
    simp? only [p_sorted_kP h1 h2 fun w hw => (h3 w hw).2, b_eq_kPL fun w hw => (h3 w hw).2, srt_iff (ahead_to m al) fun w hw => (h3 w hw).2]
    rfl
  | ah a b =>
    obtain ⟨h1, h2, h3⟩ := hg
    have kl := keys_lc (F := run P (n + 10)) (F2 := run P (n + 10 - 2)) (S := S) (m := m) (al := al) (ws := [a, b]) (fun w hw => key w (h3 w hw).1 (h3 w hw).2) (some (.tup [.str [97, 104, 101, 97, 100], .str a, .str b])) none none none
    have ro := rows [a, b] h2 h3 (some (.tup [.str [97, 104, 101, 97, 100], .str a, .str b])) none
    simp only [List.map_cons, List.map_nil] at kl
    simp? only [f85, Fk.pv, na_s, n_refl, cut_c1]
    rw [kl]
    simp? only []
    rw [show kRng (.ok (.int (((0 + 1 + 1 : Nat) : Int) - 1)) S) = .ok (W0 ((List.range ([a, b].length - 1)).map fun i => PV.int (i : Nat))) S from k_rng_p [a, b].length (by simp)]
    simp? only []
    simp only [List.map_cons, List.map_nil, List.length_cons, List.length_nil, Nat.reduceAdd, Nat.reduceSub] at ro
    rw [ro]
    simp? only [b_eq_nilI, empty_filter, Bool.not_not]
    simp [so, List.range, List.range.loop]
  | bt a b c =>
    obtain ⟨h1, h2, h3⟩ := hg
    have kl := keys_lc (F := run P (n + 10)) (F2 := run P (n + 10 - 2)) (S := S) (m := m) (al := al) (ws := [a, b, c]) (fun w hw => key w (h3 w hw).1 (h3 w hw).2) (some (.tup [.str [98, 101, 116, 119, 101, 101, 110], .str a, .str b, .str c])) none none none
    have ro := rows [a, b, c] h2 h3 (some (.tup [.str [98, 101, 116, 119, 101, 101, 110], .str a, .str b, .str c])) none
    have ga := (h3 a (by simp [Fk.words])).2
    have gb := (h3 b (by simp [Fk.words])).2
    have gc := (h3 c (by simp [Fk.words])).2
    have i0 : ∀ x y z : PV, b2 .idx (.lst [x, y, z]) (.int 1) S = .ok y S := fun x y z => b_idx_lst _ _ _ (at1 _ _ _)
    have i2 : ∀ x y z : PV, b2 .idx (.lst [x, y, z]) (.int 2) S = .ok z S := fun x y z => b_idx_lst _ _ _ (at2 _ _ _ _)
    simp only [List.map_cons, List.map_nil] at kl
    simp? only [f85, Fk.pv, nb_s, nb_a, n_refl, cut_c1]
    rw [kl]
    simp? only []
    rw [show kRng (.ok (.int (((0 + 1 + 1 + 1 : Nat) : Int) - 1)) S) = .ok (W0 ((List.range ([a, b, c].length - 1)).map fun i => PV.int (i : Nat))) S from k_rng_p [a, b, c].length (by simp)]
    simp? only []
    simp only [List.map_cons, List.map_nil, List.length_cons, List.length_nil, Nat.reduceAdd, Nat.reduceSub] at ro
    rw [ro]
    simp? only [b_eq_nilI, empty_filter, Bool.not_not, i0, i2, b_lt_kP gc, b_lt_kP gb]
    simp [so, List.range, List.range.loop]
end K
end G
set_option maxHeartbeats 1000000
namespace G
namespace K
open M L2
variable {n : Nat} {S : Store}
theorem p_append {S : Store} {p : Nat} {xs : List PV} {v : PV} (h : S[p]? = some (.lst xs)) (hl : xs.length < 1000000) : pri .append [.ptr p, v] S = .ok .non (S.set p (.lst (xs ++ [v]))) := by
  show (match S[p]? with
      | some (MO.lst xs) => if xs.length < 1000000 then rok .non (S.set p (.lst (xs ++ [v]))) else .bad
      | _ => .bad) = _
  rw [h]
  exact if_pos hl
theorem Fk.Ok.gd8 {m : Mn} (h : m.Ok) {f : Fk} (hf : f.Ok m) {al : List Wd} (ha : al ∈ alps m) : Gd8 m al f :=
  ⟨fun e => by have := hf.2.1; rw [e] at this; simp at this, by have := hf.2.2; omega, fun w hw => ⟨(hf.1 w hw).2, gd_of h ha (hf.1 w hw).1 (hf.1 w hw).2⟩⟩
theorem kept_b {m : Mn} (h : m.Ok) {fs : List Fk} (hf : ∀ f ∈ fs, f.Ok m) {al : List Wd} (ha : al ∈ alps m) {acc : List (List Wd)} (hl : acc.length < 1000000) (x4 : Option PV) :
    ∃ z, evS f86_b0 (run P (n + 11)) (run P (n + 11 - 2)) [some (mP m), some (fS fs), some (.ptr S.length), some (tS al), x4] (S ++ [.lst (acc.map fun r => tS r)]) = .nx [some (mP m), some (fS fs), some (.ptr S.length), some (tS al), z] (S ++ [.lst ((acc ++ (if sos m al fs then [al] else [])).map fun r => tS r)]) := by
  refine ⟨x4, ?_⟩
  have lc : ∀ S', lcR (run P (n + 11)) (run P (n + 11 - 2)) [some (mP m), some (fS fs), some (.ptr S.length), some (tS al), none] (.var 4) (.not (.cal 85 (.cons (.var 0) (.cons (.var 3) (.cons (.var 4) .nil))))) [4] (fs.map Fk.pv) S' = .ok ((fs.filter fun f => !so m al f).map Fk.pv) S' := fun S' =>
    lc_map Fk.pv (fun f => !so m al f) Fk.pv fun f hff => ⟨_, rfl, by simp? only [r_law_so h.two' ((hf f hff).gd8 h ha)], fun _ => by simp? only []⟩
  simp? only [f86_b0]
  rw [lc]
  simp? only [b_eq_nilF, empty_filter, Bool.not_not]
  rw [show (fs.all fun x => so m al x) = sos m al fs from rfl]
  cases e : sos m al fs with
  | true =>
    have g : (S ++ [MO.lst (acc.map fun r => tS r)])[S.length]? = some (.lst (acc.map fun r => tS r)) := st_get
    simp? only [isL g, p_append g (by rw [List.length_map]; exact hl), st_set]
    simp
  | false =>
    simp? only [List.append_nil]
theorem kept_go {m : Mn} (h : m.Ok) {fs : List Fk} (hf : ∀ f ∈ fs, f.Ok m) : ∀ (als acc : List (List Wd)) (x3 x4 : Option PV), (∀ al ∈ als, al ∈ alps m) → acc.length + als.length < 1000000 → ∃ z3 z4, foR (run P (n + 11)) (run P (n + 11 - 2)) [some (mP m), some (fS fs), some (.ptr S.length), x3, x4] [3] f86_b0 (als.map fun r => tS r) (S ++ [.lst (acc.map fun r => tS r)])
      = .nx [some (mP m), some (fS fs), some (.ptr S.length), z3, z4] (S ++ [.lst ((acc ++ als.filter fun al => sos m al fs).map fun r => tS r)])
  | [], acc, x3, x4, _, _ => ⟨x3, x4, by rw [List.map_nil, fo_nil, List.filter_nil, List.append_nil]⟩
  | al :: als, acc, x3, x4, ha, hl => by
    rw [List.length_cons] at hl
    obtain ⟨z, e⟩ := kept_b (n := n) (S := S) h hf (ha al (List.mem_cons_self)) (acc := acc) (by omega) x4
    obtain ⟨z3, z4, ih⟩ := kept_go h hf als (acc ++ if sos m al fs then [al] else []) (some (tS al)) z (fun a h' => ha a (List.mem_cons_of_mem _ h')) (by rw [List.length_append]; split <;> simp <;> omega)
    refine ⟨z3, z4, ?_⟩
    rw [List.map_cons, fo_cons]
    simp only [tg_1, fo_t, List.set_cons_succ, List.set_cons_zero]
    rw [e, fo_nx, ih, List.filter_cons, List.append_assoc]
    cases sos m al fs <;> rfl
theorem r_law_kept {m : Mn} (h : m.Ok) {fs : List Fk} (hf : ∀ f ∈ fs, f.Ok m) : run P (n + 12) 86 [mP m, fS fs] S = .ok (.ptr S.length) (S ++ [.lst ((kept m fs).map fun r => tS r)]) := by
  obtain ⟨z3, z4, e⟩ := kept_go (n := n) (S := S) h hf (alps m) [] none none (fun _ h => h) (by have := alps_len h; simp only [List.length_nil]; omega)
  rw [run_def l86 rfl, n86]
  simp? only [show f86.nl = 5 from rfl, show f86.ar = 2 from rfl, r_law_alphabets h]
  rw [List.map_nil] at e
  rw [e]
  simp? only []
  rfl
def toldL (m : Mn) (als : List (List Wd)) (f : Fk) : PV := match als.map fun al => so m al f with
  | [] => .non
  | b :: bs => if (b :: bs).contains true && (b :: bs).contains false then .non else .bl b
theorem b_eq_nilB (bs : List Bool) : b2 .eq (lB bs) (.lst []) S = .ok (.bl bs.isEmpty) S := by
  rw [b_eq_nil (d := 0) (fun x hx => by obtain ⟨s, _, rfl⟩ := List.mem_map.mp hx; exact Dt.bl s), List.isEmpty_map]
theorem r_law_told {m : Mn} (hT : m.Two) {als : List (List Wd)} {f : Fk} {q : Nat} (hq : S[q]? = some (.lst (als.map fun r => tS r))) (hg : ∀ al ∈ als, Gd8 m al f) : run P (n + 12) 87 [mP m, .ptr q, f.pv] S = .ok (toldL m als f) S := by
  rw [run_def l87 rfl]
  simp? only [f87, k_seq_p q _ hq]
  rw [lc_allq (fun r => tS r) (fun al => PV.bl (so m al f)) hq (fun al hal => ⟨_, rfl, by simp? only [r_law_so hT (hg al hal)]⟩)]
  have e : (als.map fun al => PV.bl (so m al f)) = (als.map fun al => so m al f).map PV.bl := by rw [List.map_map]; rfl
  rw [e]
  unfold toldL
  generalize (als.map fun al => so m al f) = bs
  simp? only [b_eq_nilB, b_inn_lB]
  cases bs with
  | nil => simp? only [List.isEmpty_nil]
  | cons b bs =>
    have i0 : b2 .idx (lB (b :: bs)) (.int 0) S = .ok (.bl b) S := b_idx_l0 _ _
    simp? only [List.isEmpty_cons, i0]
theorem told_eq (m : Mn) (als : List (List Wd)) (f : Fk) : told m als f = toldL m als f := by
  unfold told toldL
  cases als with
  | nil => simp
  | cons al r =>
    rw [List.map_cons]
    have c1 : ∀ (l : List (List Wd)), (l.map fun al => so m al f).contains true = decide ((l.filter fun al => so m al f) ≠ []) := fun l => by
      rw [List.contains_eq_mem]
      refine decide_eq_decide.mpr ⟨fun h e => ?_, fun h => ?_⟩
      · obtain ⟨a, ha, h⟩ := List.mem_map.mp h
        have := (List.mem_filter (p := fun al => so m al f)).mpr ⟨ha, h⟩
        rw [e] at this; cases this
      · obtain ⟨a, ha⟩ := List.exists_mem_of_ne_nil _ h
        obtain ⟨h1, h2⟩ := List.mem_filter.mp ha
        exact List.mem_map.mpr ⟨a, h1, h2⟩
    have c2 : ∀ (l : List (List Wd)), (l.map fun al => so m al f).contains false = decide ((l.filter fun al => so m al f).length < l.length) := fun l => by
      rw [List.contains_eq_mem]
      refine decide_eq_decide.mpr ⟨fun h => ?_, fun h => ?_⟩
      · obtain ⟨a, ha, h⟩ := List.mem_map.mp h
        refine Nat.lt_of_le_of_ne (List.length_filter_le _ _) fun e => ?_
        have := List.length_filter_eq_length_iff.mp e a ha
        rw [h] at this; cases this
      · refine Classical.byContradiction fun hn => ?_
        have : (l.filter fun al => so m al f).length = l.length := List.length_filter_eq_length_iff.mpr fun a ha => by
          cases e : so m a f with
          | true => rfl
          | false => exact absurd (List.mem_map.mpr ⟨a, ha, e⟩) hn
        omega
    have e1 := c1 (al :: r)
    have e2 := c2 (al :: r)
    rw [List.map_cons] at e1 e2
    simp only [e1, e2]
    by_cases h1 : ((al :: r).filter fun al => so m al f) = []
    · have hz : so m al f = false := by
        have := List.filter_eq_nil_iff.mp h1 al (List.mem_cons_self)
        simpa using this
      simp [h1, hz]
    · by_cases h2 : ((al :: r).filter fun al => so m al f).length < (al :: r).length
      · have : al :: r ≠ [] := by simp
        simp only [h1, h2, ne_eq, not_false_eq_true, and_self, or_true, if_true, decide_true, Bool.and_self]
      · have hz : so m al f = true := by
          have : ((al :: r).filter fun al => so m al f).length = (al :: r).length := Nat.le_antisymm (List.length_filter_le _ _) (by omega)
          exact List.length_filter_eq_length_iff.mp this al (List.mem_cons_self)
        have hp : 0 < ((al :: r).filter fun al => so m al f).length := by
          rcases Nat.eq_zero_or_pos ((al :: r).filter fun al => so m al f).length with h | h
          · exact absurd (List.eq_nil_of_length_eq_zero h) h1
          · exact h
        simp only [h1, h2, hz, hp, ne_eq, not_false_eq_true, true_and, or_false, reduceCtorEq, if_false, decide_true, decide_false, Bool.and_false, Bool.false_eq_true]
theorem r_law_fact {p : Nat} {m : Mn} (hm : 2 ≤ m.many) (h : Vat S p) : ∃ (f : Fk) (S' : Store), f.Ok m ∧ Dr p S S' ∧ run P (n + 5) 49 [.ptr p, mP m] S = .ok f.pv S' := by
  obtain ⟨kw, S1, hkw, d1, e1⟩ := r_some_m (n := n + 2) PV.str (xs := [[97, 104, 101, 97, 100], [97, 104, 101, 97, 100], [98, 101, 116, 119, 101, 101, 110], [115, 111, 114, 116, 101, 100]]) h (by simp) (by simp)
  have e1' : run P (n + 4) 15 [.ptr p, .lst [.str [97, 104, 101, 97, 100], .str [97, 104, 101, 97, 100], .str [98, 101, 116, 119, 101, 101, 110], .str [115, 111, 114, 116, 101, 100]]] S = .ok (.str kw) S1 := e1
  have hcase : kw = [97, 104, 101, 97, 100] ∨ kw = [98, 101, 116, 119, 101, 101, 110] ∨ kw = [115, 111, 114, 116, 101, 100] := by
    simp only [List.mem_cons, List.not_mem_nil, or_false] at hkw
    rcases hkw with h | h | h | h
    · exact .inl h
    · exact .inl h
    · exact .inr (.inl h)
    · exact .inr (.inr h)
  have hSL := SL_big
  rcases hcase with rfl | rfl | rfl
  · obtain ⟨ws, S2, hws, hl, d2, e2⟩ := r_law_words (n := n) hm 2 (by decide) d1.v
    have e2' : run P (n + 4) 48 [.ptr p, mP m, .int 2] S1 = .ok (tS ws) S2 := e2
    obtain ⟨a, b, rfl⟩ : ∃ a b, ws = [a, b] := by
      match ws, hl with
      | [a, b], _ => exact ⟨a, b, rfl⟩
    refine ⟨.ah a b, S2, ⟨hws, by simp [Fk.words], by simp [Fk.words]⟩, d1.trans d2, ?_⟩
    rw [run_def l49 rfl]
    simp? only [f49, e1', na_s, n_refl, e2']
    rw [b_add_tup _ _ (by simp; omega)]
    simp? only []
    rfl
  · obtain ⟨ws, S2, hws, hl, d2, e2⟩ := r_law_words (n := n) hm 3 (by decide) d1.v
    have e2' : run P (n + 4) 48 [.ptr p, mP m, .int 3] S1 = .ok (tS ws) S2 := e2
    obtain ⟨a, b, c, rfl⟩ : ∃ a b c, ws = [a, b, c] := by
      match ws, hl with
      | [a, b, c], _ => exact ⟨a, b, c, rfl⟩
    refine ⟨.bt a b c, S2, ⟨hws, by simp [Fk.words], by simp [Fk.words]⟩, d1.trans d2, ?_⟩
    rw [run_def l49 rfl]
    simp? only [f49, e1', nb_s, nb_a, e2']
    rw [b_add_tup _ _ (by simp; omega)]
    simp? only []
    rfl
  · obtain ⟨k, S2, hk, d2, e2⟩ := r_under (n := n + 3) d1.v (m := 3) (by decide) (by decide)
    have e2' : run P (n + 4) 14 [.ptr p, .int 3] S1 = .ok (.int k) S2 := e2
    obtain ⟨ws, S3, hws, hl, d3, e3⟩ := r_law_words (n := n) hm (2 + k) (by omega) d2.v
    have e3' : run P (n + 4) 48 [.ptr p, mP m, .int (2 + (k : Int))] S2 = .ok (tS ws) S3 := by
      rw [show (2 + (k : Int)) = ((2 + k : Nat) : Int) by omega]; exact e3
    refine ⟨.so ws, S3, ⟨hws, by simp only [Fk.words]; omega, by simp only [Fk.words]; omega⟩, (d1.trans d2).trans d3, ?_⟩
    rw [run_def l49 rfl]
    simp? only [f49, e1', n_refl, e2', e3']
    rfl
end K
end G
set_option maxHeartbeats 1000000
namespace G
namespace K
open M L2
variable {n : Nat} {S : Store}
theorem sel_ok {m : Mn} {lt : Wd → Wd → Bool} {ws : List Wd} (h : (Fk.so ws).Ok m) : (Fk.so (sel lt ws.length ws)).Ok m := by
  have p := sel_perm lt ws.length ws (Nat.le_refl _)
  obtain ⟨h1, h2, h3⟩ := h
  simp only [Fk.words] at h1 h2 h3
  exact ⟨fun w hw => h1 w (p.mem_iff.mp hw), by simp only [Fk.words]; rw [p.length_eq]; exact h2, by simp only [Fk.words]; rw [p.length_eq]; exact h3⟩
def f88_e : St := .seq (.ifs (.or (.cal 85 (.cons (.var 1) (.cons (.var 4) (.cons (.var 6) .nil)))) (.bin .eq (.cal 14 (.cons (.var 0) (.cons (.cst (.int 6)) .nil))) (.cst (.int 0)))) (.seq (.asg 5 (.bin .add (.var 5) (.tup (.cons (.var 6) .nil)))) .nop) .nop) .nop
theorem facts_e {p : Nat} {m : Mn} (h : m.Ok) {al : List Wd} (ha : al ∈ alps m) {fs : List Fk} (hl : fs.length ≤ 900) (hf : ∀ f ∈ fs, f.Ok m) {f : Fk} (ho : f.Ok m) (hv : Vat S p) (u x3 : Option PV) :
    ∃ (fs' : List Fk) (S' : Store), evS f88_e (run P (n + 12)) (run P (n + 12 - 2)) [some (.ptr p), some (mP m), u, x3, some (tS al), some (fS fs), some f.pv] S = .nx [some (.ptr p), some (mP m), u, x3, some (tS al), some (fS fs'), some f.pv] S' ∧ Dr p S S' ∧ (∀ f ∈ fs', f.Ok m) ∧ fs'.length ≤ fs.length + 1 := by
  have hSL := SL_big
  have e85 : run P (n + 12) 85 [mP m, tS al, f.pv] S = _ := r_law_so (n := n + 1) h.two' (ho.gd8 h ha)
  have hadd : ∀ S' : Store, b2 .add (fS fs) (.tup [f.pv]) S' = .ok (fS (fs ++ [f])) S' := fun S' => by
    rw [b_add_tup _ _ (by simp only [List.length_map, List.length_cons, List.length_nil]; omega)]
    simp [fS]
  have hok : ∀ g ∈ fs ++ [f], g.Ok m := fun g hg => by
    rcases List.mem_append.mp hg with hg | hg
    · exact hf g hg
    · rw [List.mem_singleton.mp hg]; exact ho
  cases hs : so m al f with
  | true =>
    rw [hs] at e85
    refine ⟨fs ++ [f], S, ?_, Dr.refl hv, hok, by simp⟩
    simp? only [f88_e, e85, hadd]
  | false =>
    rw [hs] at e85
    obtain ⟨k, S2, hk, d2, e2⟩ := r_under (n := n + 11) hv (m := 6) (by decide) (by decide)
    have e2' : run P (n + 12) 14 [.ptr p, .int 6] S = .ok (.int k) S2 := e2
    by_cases hk0 : k = 0
    · subst hk0
      refine ⟨fs ++ [f], S2, ?_, d2, hok, by simp⟩
      simp? only [f88_e, e85, e2', Int.cast_ofNat_Int, hadd]
    · refine ⟨fs, S2, ?_, d2, hf, by simp⟩
      have : decide ((k : Int) = 0) = false := decide_eq_false (by omega)
      simp? only [f88_e, e85, e2', this]
theorem facts_b {p : Nat} {m : Mn} (h : m.Ok) {al : List Wd} (ha : al ∈ alps m) {fs : List Fk} (hl : fs.length ≤ 900) (hf : ∀ f ∈ fs, f.Ok m) (hv : Vat S p) (u x3 x6 : Option PV) :
    ∃ (fs' : List Fk) (z6 : Option PV) (S' : Store), evS f88_b0 (run P (n + 12)) (run P (n + 12 - 2)) [some (.ptr p), some (mP m), u, x3, some (tS al), some (fS fs), x6] S = .nx [some (.ptr p), some (mP m), u, x3, some (tS al), some (fS fs'), z6] S' ∧ Dr p S S' ∧ (∀ f ∈ fs', f.Ok m) ∧ fs'.length ≤ fs.length + 1 := by
  obtain ⟨f, S1, ho, d1, e1⟩ := r_law_fact (n := n + 7) h.lo hv
  have e1' : run P (n + 12) 49 [.ptr p, mP m] S = .ok f.pv S1 := e1
  have body : f88_b0 = .seq (.asg 6 (.cal 49 (.cons (.var 0) (.cons (.var 1) .nil)))) (.seq (.ifs (.and (.bin .eq (.bin .idx (.var 6) (.cst (.int 0))) (.cst (.str [115, 111, 114, 116, 101, 100]))) (.bin .gt (.cal 14 (.cons (.var 0) (.cons (.cst (.int 4)) .nil))) (.cst (.int 0)))) (.seq (.asg 6 (.tup (.cons (.bin .idx (.var 6) (.cst (.int 0))) (.cons (.cal 68 (.cons (.var 1) (.cons (.var 4) (.cons (.bin .idx (.var 6) (.cst (.int 1))) .nil)))) .nil)))) .nop) .nop) f88_e) := rfl
  have plain : ∀ (x : Wd) (r : List PV), f.pv = .tup (.str x :: r) → decide (x = [115, 111, 114, 116, 101, 100]) = false → ∃ (fs' : List Fk) (z6 : Option PV) (S' : Store), evS f88_b0 (run P (n + 12)) (run P (n + 12 - 2)) [some (.ptr p), some (mP m), u, x3, some (tS al), some (fS fs), x6] S = .nx [some (.ptr p), some (mP m), u, x3, some (tS al), some (fS fs'), z6] S' ∧ Dr p S S' ∧ (∀ f ∈ fs', f.Ok m) ∧ fs'.length ≤ fs.length + 1 := fun x r hx hne => by
    obtain ⟨fs', S', e, d, h1, h2⟩ := facts_e (n := n) (S := S1) h ha hl hf ho d1.v u x3
    refine ⟨fs', some f.pv, S', ?_, d1.trans d, h1, h2⟩
    rw [← e, body]
    rw [hx] at e1' ⊢
    simp? only [e1', hne]
  cases f with
  | ah a b => exact plain _ _ rfl na_s
  | bt a b c => exact plain _ _ rfl nb_s
  | so ws =>
    obtain ⟨k, S2, hk, d2, e2⟩ := r_under (n := n + 11) d1.v (m := 4) (by decide) (by decide)
    have e2' : run P (n + 12) 14 [.ptr p, .int 4] S1 = .ok (.int k) S2 := e2
    by_cases hk0 : k = 0
    · subst hk0
      obtain ⟨fs', S', e, d, h1, h2⟩ := facts_e (n := n) (S := S2) h ha hl hf ho d2.v u x3
      refine ⟨fs', some (Fk.so ws).pv, S', ?_, (d1.trans d2).trans d, h1, h2⟩
      rw [← e, body]
      simp only [Fk.pv] at e1' ⊢
      simp? only [e1', n_refl, e2', Int.cast_ofNat_Int, show decide ((0 : Int) < 0) = false by decide]
    · have hws : ∀ w ∈ ws, LetW m w ∧ w.length ≤ 8 := ho.1
      have e3 : run P (n + 12) 68 [mP m, tS al, tS ws] S2 = _ := r_law_sorted h.two' (by have := ho.2.2; simp only [Fk.words] at this; omega) (fun w hw => (hws w hw).2) fun w hw => gd_of h ha (hws w hw).1 (hws w hw).2
      have d3 : Dr p S2 (S2 ++ [.lst []]) := Dr.push d2.v _
      obtain ⟨fs', S', e, d, h1, h2⟩ := facts_e (n := n) (S := S2 ++ [.lst []]) h ha hl hf (sel_ok (lt := ahead m al) ho) d3.v u x3
      refine ⟨fs', some (Fk.so (sel (ahead m al) ws.length ws)).pv, S', ?_, ((d1.trans d2).trans d3).trans d, h1, h2⟩
      rw [← e, body]
      simp only [Fk.pv] at e1' ⊢
      simp? only [e1', n_refl, e2', show decide ((0 : Int) < (k : Int)) = true from decide_eq_true (by omega), e3]
theorem facts_go {p : Nat} {m : Mn} (h : m.Ok) {al : List Wd} (ha : al ∈ alps m) (u : Option PV) : ∀ (is : List PV) (fs : List Fk) (x3 x6 : Option PV) (S : Store), fs.length + is.length ≤ 900 → (∀ f ∈ fs, f.Ok m) → Vat S p →
    ∃ (fs' : List Fk) (z3 z6 : Option PV) (S' : Store), foR (run P (n + 12)) (run P (n + 12 - 2)) [some (.ptr p), some (mP m), u, x3, some (tS al), some (fS fs), x6] [3] f88_b0 is S = .nx [some (.ptr p), some (mP m), u, z3, some (tS al), some (fS fs'), z6] S' ∧ Dr p S S' ∧ (∀ f ∈ fs', f.Ok m) ∧ fs'.length ≤ fs.length + is.length
  | [], fs, x3, x6, S, _, hf, hv => ⟨fs, x3, x6, S, rfl, Dr.refl hv, hf, Nat.le_refl _⟩
  | i :: is, fs, x3, x6, S, hl, hf, hv => by
    rw [List.length_cons] at hl
    obtain ⟨fs1, z6, S1, e1, d1, h1, h2⟩ := facts_b (n := n) (S := S) h ha (by omega) hf hv u (some i) x6
    obtain ⟨fs2, y3, y6, S2, e2, d2, h3, h4⟩ := facts_go h ha u is fs1 (some i) z6 S1 (by omega) h1 d1.v
    refine ⟨fs2, y3, y6, S2, ?_, d1.trans d2, h3, by rw [List.length_cons]; omega⟩
    rw [fo_cons]
    simp only [tg_1, fo_t, List.set_cons_succ, List.set_cons_zero]
    rw [e1, fo_nx, e2]
theorem r_law_facts {p : Nat} {m : Mn} (h : m.Ok) (most : Nat) (hm : most ≤ 800) (hv : Vat S p) : ∃ (fs : List Fk) (S' : Store), (∀ f ∈ fs, f.Ok m) ∧ fs.length ≤ most ∧ Dr p S S' ∧ run P (n + 13) 88 [.ptr p, mP m, .int most] S = .ok (fS fs) S' := by
  have e22 : run P (n + 12) 22 [mP m] S = _ := r_law_alphabets h
  obtain ⟨al, S1, hal, d1, e1⟩ := r_some_alp (n := n + 10) h hv
  obtain ⟨k, S2, hk, d2, e2⟩ := r_under (n := n + 11) d1.v (m := most + 1) (by omega) (by omega)
  have e2' : run P (n + 12) 14 [.ptr p, .int ((most : Int) + 1)] S1 = .ok (.int k) S2 := e2
  obtain ⟨fs, z3, z6, S3, e3, d3, h1, h2⟩ := facts_go (n := n) h hal (some (.int most)) (rangeP (k : Int)) [] none none S2 (by rw [rng_len]; simp only [List.length_nil]; omega) (by simp) d2.v
  rw [rng_len] at h2
  refine ⟨fs, S3, h1, by simp only [List.length_nil] at h2; omega, (d1.trans d2).trans d3, ?_⟩
  have e0 : (some (PV.tup []) : Option PV) = some (fS []) := rfl
  rw [run_def l88 rfl, n88]
  simp? only [show f88.nl = 7 from rfl, show f88.ar = 3 from rfl, e22, e1, e2', k_rng (k : Int) (by omega)]
  rw [e0, e3]
  simp? only []
end K
end G
set_option maxHeartbeats 1000000
namespace G
namespace K
open M L2
def f141_b0 : St := .seq (.asg 5 (.pri .max1 (.cons (.com (.pri .len (.cons (.var 6) .nil)) [6] (.iseq (.cal 140 (.cons (.var 2) (.cons (.var 4) .nil)))) (.cst (.bl true)) [6]) .nil))) (.seq (.ifs (.or (.bin .is (.var 3) (.cst .non)) (.bin .lt (.var 5) (.bin .idx (.var 3) (.cst (.int 0))))) (.seq (.asg 3 (.tup (.cons (.var 5) (.cons (.var 4) .nil)))) .nop) .nop) .nop)
theorem n141 : f141.body = .seq (.exp (.cal 3 (.cons (.var 0) .nil))) (.seq (.exp (.cal 74 (.cons (.var 0) (.cons (.var 1) .nil)))) (.seq (.asg 2 (.cal 79 (.cons (.var 0) (.cons (.var 1) .nil)))) (.seq (.ifs (.bin .lt (.pri .len (.cons (.var 2) .nil)) (.cst (.int 2))) (.seq (.ret (.cst .non)) .nop) .nop) (.seq (.asg 3 (.cst .non)) (.seq (.for [4] (.iseq (.cal 139 (.cons (.var 0) .nil))) f141_b0) (.seq (.ret (.var 3)) .nop)))))) := by rfl
def f142_b0 : St := .seq (.asg 3 (.bin .add (.var 3) (.com (.tup (.cons (.bin .idx (.var 2) (.var 1)) (.cons (.var 4) .nil))) [4] (.iseq (.slc (.var 2) (.cons (.bin .add (.var 1) (.cst (.int 1))) .nil) .nil false)) (.cst (.bl true)) [4]))) .nop
theorem n142 : f142.body = .seq (.unp [2, 3] (.tup (.cons (.cal 21 (.cons (.var 0) .nil)) (.cons (.lst .nil) .nil)))) (.seq (.for [1] (.irng (.pri .len (.cons (.var 2) .nil))) f142_b0) (.seq (.ret (.var 3)) .nop)) := by rfl
variable {n : Nat} {S : Store}
abbrev kk (l : Wd × Wd) : PV := .tup [.str l.1, .str l.2]
def look1 (ss : List Wd) (i : Nat) : List (Wd × Wd) := (ss.drop (i + 1)).map fun o => (ss[i]!, o)
def looks (ss : List Wd) : List (Wd × Wd) := ((List.range ss.length).map fun i => look1 ss i).flatten
theorem look_mem {ss : List Wd} (hn : ss.Nodup) {l : Wd × Wd} (h : l ∈ looks ss) : l.1 ∈ ss ∧ l.2 ∈ ss ∧ l.1 ≠ l.2 := by
  obtain ⟨r, hr, hl⟩ := List.mem_flatten.mp h
  obtain ⟨i, hi, rfl⟩ := List.mem_map.mp hr
  have hi' := List.mem_range.mp hi
  obtain ⟨o, ho, rfl⟩ := List.mem_map.mp hl
  have e : ss[i]! = ss[i] := by simp [hi']
  have hsp : (ss.take (i + 1) ++ ss.drop (i + 1)).Nodup := by rw [List.take_append_drop]; exact hn
  refine ⟨by rw [e]; exact List.getElem_mem hi', List.mem_of_mem_drop ho, fun c => ?_⟩
  have c' : ss[i] = o := by rw [← e]; exact c
  refine (List.nodup_append.mp hsp).2.2 ss[i] ?_ o ho c'
  rw [List.take_succ_eq_append_getElem hi']
  exact List.mem_append_right _ (List.mem_singleton.mpr rfl)
theorem look1_len (ss : List Wd) (i : Nat) : (look1 ss i).length ≤ ss.length := by
  unfold look1
  rw [List.length_map, List.length_drop]
  omega
theorem cut_succ (ss : List Wd) (i : Nat) : cutL (ss.map PV.str) (some ((i : Int) + 1)) none = (ss.drop (i + 1)).map .str := by
  rw [cut_map]; exact congrArg _ (cut_drop ss (i + 1))
theorem enuP_gen : ∀ (ss : List Wd) (k : Nat), enuP k (ss.map .str) = (List.range ss.length).map fun i => PV.tup [.int ((k + i : Nat) : Int), .str ss[i]!]
  | [], _ => rfl
  | s :: r, k => by
    rw [List.map_cons, List.length_cons, List.range_succ_eq_map, List.map_cons, List.map_map]
    show _ :: enuP (k + 1) (r.map .str) = _
    rw [enuP_gen r (k + 1)]
    refine congr (congrArg List.cons rfl) (List.map_congr_left fun i _ => ?_)
    show PV.tup [.int ((k + 1 + i : Nat) : Int), .str r[i]!] = PV.tup [.int ((k + (i + 1) : Nat) : Int), .str (s :: r)[i + 1]!]
    rw [show k + 1 + i = k + (i + 1) by omega]
    simp
theorem enu0 (ss : List Wd) : enuP 0 (ss.map .str) = (List.range ss.length).map fun i : Nat => PV.tup [.int (i : Int), .str ss[i]!] := by
  rw [enuP_gen]
  exact List.map_congr_left fun i _ => by rw [Nat.zero_add]
theorem lk_flat_len (ss : List Wd) : ∀ is : List Nat, ((is.map fun i => look1 ss i).flatten).length ≤ is.length * ss.length
  | [] => Nat.zero_le _
  | i :: is => by
    rw [List.map_cons, List.flatten_cons, List.length_append, List.length_cons, Nat.succ_mul]
    have := lk_flat_len ss is
    have := look1_len ss i
    omega
theorem looks_len {ss : List Wd} (h : ss.length ≤ 6) : (looks ss).length ≤ 36 := by
  have := lk_flat_len ss (List.range ss.length)
  rw [List.length_range] at this
  have h2 : ss.length * ss.length ≤ 6 * 6 := Nat.mul_le_mul h h
  unfold looks
  omega
theorem r_all_looks {m : Mn} (h : m.Ok) : run P (n + 2) 139 [mP m] S = .ok (.lst ((looks (signs m)).map kk)) S := by
  have hS := SL_big
  have hl := looks_len (signs_six h)
  rw [run_def l139 rfl]
  simp? only [f139, r_all_signs h.pl, enu0]
  rw [lc2_map (fun i : Nat => PV.tup [.int (i : Int), .str (signs m)[i]!]) (fun i => (look1 (signs m) i).map kk) (fun i hi => ⟨_, ((signs m).drop (i + 1)).map .str, rfl, by simp? only [cut_succ], by
    simp? only []
    rw [lc_all PV.str (fun o => kk ((signs m)[i]!, o)) (fun o ho => ⟨_, rfl, by simp? only []⟩)]
    unfold look1
    rw [List.map_map]; rfl⟩)]
  have e : ((List.range (signs m).length).map fun i => (look1 (signs m) i).map kk).flatten = (looks (signs m)).map kk := by
    unfold looks
    rw [List.map_flatten, List.map_map]; rfl
  rw [e, k_l2 _ (by rw [List.length_map]; omega)]
  simp? only []
theorem law_looks_go {F F2 : Orc} (ss : List Wd) (hs : ss.length ≤ 6) (u x4 : Option PV) : ∀ (is : List Nat) (acc : List (Wd × Wd)) (x1 : Option PV), (∀ i ∈ is, i < ss.length) → acc.length + 6 * is.length ≤ 1000 →
    ∃ y1, foR F F2 [u, x1, some (lS ss), some (.lst (acc.map kk)), x4] [1] f142_b0 (is.map fun i : Nat => PV.int (i : Int)) S = .nx [u, y1, some (lS ss), some (.lst ((acc ++ (is.map fun i => look1 ss i).flatten).map kk)), x4] S
  | [], acc, x1, _, _ => ⟨x1, by rw [List.map_nil, fo_nil, List.map_nil, List.flatten_nil, List.append_nil]⟩
  | i :: is, acc, x1, hi, hl => by
    have hS := SL_big
    rw [List.length_cons] at hl
    have h1 := hi i List.mem_cons_self
    have h2 := look1_len ss i
    obtain ⟨y1, ih⟩ := law_looks_go (F := F) (F2 := F2) ss hs u x4 is (acc ++ look1 ss i) (some (.int (i : Int))) (fun j hj => hi j (List.mem_cons_of_mem _ hj)) (by rw [List.length_append]; omega)
    refine ⟨y1, ?_⟩
    have e0 : b2 .idx (lS ss) (.int (i : Int)) S = .ok (.str ss[i]!) S := idxl_nat _ _ _ (by rw [List.getElem?_map, List.getElem?_eq_getElem h1]; simp [h1])
    have e1 : ((ss.drop (i + 1)).map fun o => kk (ss[i]!, o)) = (look1 ss i).map kk := by unfold look1; rw [List.map_map]; rfl
    have e2 : b2 .add (.lst (acc.map kk)) (.lst ((look1 ss i).map kk)) S = .ok (.lst ((acc ++ look1 ss i).map kk)) S := by
      rw [b_add_lst _ _ (by simp only [List.length_map]; omega), List.map_append]
    rw [List.map_cons, fo_cons]
    simp only [tg_1, fo_t]
    have eb : evS f142_b0 F F2 ([u, x1, some (lS ss), some (.lst (acc.map kk)), x4].set 1 (some (.int (i : Int)))) S = .nx [u, some (.int (i : Int)), some (lS ss), some (.lst ((acc ++ look1 ss i).map kk)), x4] S := by
      simp? only [f142_b0, cut_succ]
      rw [lc_all PV.str (fun o => kk (ss[i]!, o)) (fun o ho => ⟨_, rfl, by simp? only [e0]⟩), e1]
      simp? only [e2]
    rw [eb, fo_nx, ih, List.map_cons, List.flatten_cons, List.append_assoc]
theorem r_law_looks {m : Mn} (h : m.Ok) : run P (n + 2) 142 [mP m] S = .ok (.lst ((looks (signs m)).map kk)) S := by
  have h6 := signs_six h
  obtain ⟨y1, e⟩ := law_looks_go (F := run P (n + 1)) (F2 := run P (n + 1 - 2)) (S := S) (signs m) h6 (some (mP m)) none (List.range (signs m).length) [] none (fun i hi => List.mem_range.mp hi) (by rw [List.length_range]; simp only [List.length_nil]; omega)
  rw [run_def l142 rfl, n142]
  simp? only [show f142.nl = 5 from rfl, show f142.ar = 1 from rfl, r_law_signs h.pl, List.length_map]
  rw [k_rng_n _ (by omega)]
  simp? only []
  rw [List.map_nil] at e
  rw [e]
  simp? only []
  rfl
def yesL (als : List (List Wd)) (l : Wd × Wd) : List (List Wd) := als.filter fun al => decide (al.idxOf l.1 < al.idxOf l.2)
def noL (als : List (List Wd)) (l : Wd × Wd) : List (List Wd) := als.filter fun al => decide (al.idxOf l.2 < al.idxOf l.1)
def InL (als : List (List Wd)) (l : Wd × Wd) : Prop := ∀ al ∈ als, l.1 ∈ al ∧ l.2 ∈ al
theorem yes_no {als : List (List Wd)} {l : Wd × Wd} (h : InL als l) (hne : l.1 ≠ l.2) : (noL als l).length = als.length - (yesL als l).length ∧ (yesL als l).length ≤ als.length := by
  refine ⟨?_, List.length_filter_le _ _⟩
  induction als with
  | nil => rfl
  | cons al r ih =>
    have ih' := ih fun a ha => h a (List.mem_cons_of_mem _ ha)
    have hh := h al List.mem_cons_self
    have hl : (yesL r l).length ≤ r.length := List.length_filter_le _ _
    unfold noL yesL at *
    rw [List.filter_cons, List.filter_cons, List.length_cons]
    have hi : al.idxOf l.1 ≠ al.idxOf l.2 := fun c => hne (by
      have e1 := List.getElem_idxOf (List.idxOf_lt_length_of_mem hh.1)
      have e2 := List.getElem_idxOf (List.idxOf_lt_length_of_mem hh.2)
      exact e1.symm.trans (Eq.trans (getElem_congr rfl c _) e2))
    by_cases c : al.idxOf l.1 < al.idxOf l.2
    · have c' : ¬ al.idxOf l.2 < al.idxOf l.1 := by omega
      simp only [c, c', decide_true, decide_false, if_true, Bool.false_eq_true, if_false, List.length_cons]
      omega
    · have c' : al.idxOf l.2 < al.idxOf l.1 := by omega
      simp only [c, c', decide_true, decide_false, if_true, Bool.false_eq_true, if_false, List.length_cons]
      omega
theorem r_parted {als : List (List Wd)} {l : Wd × Wd} (h : InL als l) : run P (n + 1) 140 [lT als, kk l] S = .ok (.tup [.tup ((yesL als l).map fun r => tS r), .tup ((noL als l).map fun r => tS r)]) S := by
  rw [run_def l140 rfl]
  simp? only [f140]
  rw [lc_map (fun r => tS r) (fun al => decide (al.idxOf l.1 < al.idxOf l.2)) (fun r => tS r) (fun al hal => ⟨_, rfl, by simp? only [p_index_tupS al l.1 (h al hal).1, p_index_tupS al l.2 (h al hal).2, Int.ofNat_lt], fun _ => by simp? only []⟩)]
  simp? only []
  rw [lc_map (fun r => tS r) (fun al => decide (al.idxOf l.2 < al.idxOf l.1)) (fun r => tS r) (fun al hal => ⟨_, rfl, by simp? only [p_index_tupS al l.1 (h al hal).1, p_index_tupS al l.2 (h al hal).2, Int.ofNat_lt], fun _ => by simp? only []⟩)]
  simp? only []
  rfl
abbrev Bst := Option (Nat × Wd × Wd)
def bP : Bst → PV
  | none => .non
  | some (k, l) => .tup [.int (k : Int), kk l]
def mst (als : List (List Wd)) (l : Wd × Wd) : Nat := max (yesL als l).length (noL als l).length
def bstep (als : List (List Wd)) (b : Bst) (l : Wd × Wd) : Bst := match b with
  | none => some (mst als l, l)
  | some (k, l0) => if mst als l < k then some (mst als l, l) else some (k, l0)
def bfold (als : List (List Wd)) (b : Bst) (ls : List (Wd × Wd)) : Bst := ls.foldl (bstep als) b
theorem p_max1 (a b : Nat) : pri .max1 [.lst [.int (a : Int), .int (b : Int)]] S = .ok (.int ((max a b : Nat) : Int)) S := by
  show R.ok (PV.int (max (a : Int) (b : Int))) S = _
  congr 2
  omega
theorem bl_b {n : Nat} {S : Store} {als : List (List Wd)} {l : Wd × Wd} {F2 : Orc} (h : InL als l) (b : Bst) (x0 x1 x5 x6 : Option PV) :
    ∃ y5, evS f141_b0 (run P (n + 1)) F2 [x0, x1, some (lT als), some (bP b), some (kk l), x5, x6] S = .nx [x0, x1, some (lT als), some (bP (bstep als b l)), some (kk l), y5, x6] S := by
  refine ⟨some (.int (mst als l : Nat)), ?_⟩
  have e1 : run P (n + 1) 140 [lT als, kk l] S = _ := r_parted h
  have lc : ∀ x5 x6 : Option PV, lcR (run P (n + 1)) F2 [x0, x1, some (lT als), some (bP b), some (kk l), x5, none] (.pri .len (.cons (.var 6) .nil)) (.cst (.bl true)) [6] [.tup ((yesL als l).map fun r => tS r), .tup ((noL als l).map fun r => tS r)] S = .ok [.int ((yesL als l).length : Int), .int ((noL als l).length : Int)] S := fun x5 x6 => by
    have := lc_all (F := run P (n + 1)) (F2 := F2) (ρ := [x0, x1, some (lT als), some (bP b), some (kk l), x5, none]) (S := S) (elt := .pri .len (.cons (.var 6) .nil)) (tg := [6]) (fun q : List (List Wd) => PV.tup (q.map fun r => tS r)) (fun q => PV.int (q.length : Int)) (xs := [yesL als l, noL als l]) (fun q hq => ⟨_, rfl, by simp? only [List.length_map]⟩)
    exact this
  simp? only [f141_b0, e1]
  rw [lc x5 x6]
  simp? only [p_max1]
  cases b with
  | none => simp? only [bP, bstep, mst]
  | some k =>
    obtain ⟨k, l0⟩ := k
    simp? only [bP, bstep, Int.ofNat_lt]
    rw [show max (yesL als l).length (noL als l).length = mst als l from rfl]
    by_cases c : mst als l < k
    · simp? only [c, decide_true, if_true]
    · simp? only [c, decide_false, if_false]
theorem bl_go {n : Nat} {S : Store} {als : List (List Wd)} {F2 : Orc} (x0 x1 x6 : Option PV) : ∀ (ls : List (Wd × Wd)) (b : Bst) (x4 x5 : Option PV), (∀ l ∈ ls, InL als l) →
    ∃ y4 y5, foR (run P (n + 1)) F2 [x0, x1, some (lT als), some (bP b), x4, x5, x6] [4] f141_b0 (ls.map kk) S = .nx [x0, x1, some (lT als), some (bP (bfold als b ls)), y4, y5, x6] S
  | [], b, x4, x5, _ => ⟨x4, x5, rfl⟩
  | l :: ls, b, x4, x5, h => by
    obtain ⟨y, e⟩ := bl_b (n := n) (S := S) (F2 := F2) (h l List.mem_cons_self) b x0 x1 x5 x6
    obtain ⟨y4, y5, ih⟩ := bl_go (n := n) (S := S) (F2 := F2) x0 x1 x6 ls (bstep als b l) (some (kk l)) y fun a ha => h a (List.mem_cons_of_mem _ ha)
    refine ⟨y4, y5, ?_⟩
    rw [List.map_cons, fo_cons]
    simp only [tg_1, fo_t, List.set_cons_succ, List.set_cons_zero]
    rw [e, fo_nx, ih]
    rfl
/-- what best_look tells -/
def bestV (als : List (List Wd)) (ls : List (Wd × Wd)) : Bst := if als.length < 2 then none else bfold als none ls
theorem inL {m : Mn} (h : m.Ok) {fs : List Fk} {l : Wd × Wd} (hl : l ∈ looks (signs m)) : InL (kept m fs) l := fun al ha => by
  obtain ⟨h1, h2, _⟩ := look_mem (signs_nd h) hl
  have p := alps_perm h (List.mem_filter.mp ha).1
  exact ⟨p.mem_iff.mpr h1, p.mem_iff.mpr h2⟩
theorem r_best_look {m : Mn} (h : m.Ok) {fs : List Fk} (hf : ∀ f ∈ fs, f.Ok m) (hl : fs.length ≤ 5) : run P (n + 8) 141 [mP m, fS fs] S = .ok (bP (bestV (kept m fs) (looks (signs m)))) S := by
  obtain ⟨y4, y5, e⟩ := bl_go (n := n + 6) (S := S) (F2 := run P (n + 7 - 2)) (als := kept m fs) (some (mP m)) (some (fS fs)) none (looks (signs m)) none none none fun l hl => inL h hl
  rw [run_def l141 rfl, n141]
  simp? only [show f141.nl = 7 from rfl, show f141.ar = 2 from rfl, r_need_manner h, r_need_facts hf hl, r_kept_by h hf, List.length_map]
  unfold bestV
  by_cases c : (kept m fs).length < 2
  · have c' : ((kept m fs).length : Int) < 2 := by omega
    simp? only [c, c', decide_true, if_true, bP]
  · have c' : ¬ ((kept m fs).length : Int) < 2 := by omega
    simp? only [c, c', decide_false, if_false, r_all_looks h]
    have e' : foR (run P (n + 7)) (run P (n + 7 - 2)) [some (mP m), some (fS fs), some (lT (kept m fs)), some .non, none, none, none] [4] f141_b0 ((looks (signs m)).map kk) S = _ := e
    rw [e']
    simp? only []
end K
end G
set_option maxHeartbeats 1000000
namespace G
namespace K
open M L2
def f166_b0 : St := .seq (.asg 13 (.mut (.pri .list (.cons (.var 11) .nil)))) (.seq (.par [14, 15] (.cons (.mth .index (.var 11) (.cons (.bin .idx (.var 10) (.cst (.int 0))) .nil)) (.cons (.mth .index (.var 11) (.cons (.bin .idx (.var 10) (.cst (.int 1))) .nil)) .nil))) (.seq (.st2 (.var 13) (.var 14) (.var 13) (.var 15) (.tup (.cons (.bin .idx (.var 10) (.cst (.int 1))) (.cons (.bin .idx (.var 10) (.cst (.int 0))) .nil)))) (.seq (.ifs (.bin .eq (.cal 68 (.cons (.var 5) (.cons (.pri .tuple (.cons (.var 13) .nil)) (.cons (.var 12) .nil)))) (.cal 68 (.cons (.var 5) (.cons (.var 11) (.cons (.var 12) .nil))))) (.seq (.exp (.mth .append (.var 9) (.cons (.var 10) .nil))) .nop) .nop) .nop)))
def f166_b1 : St := .seq (.unp [11, 12] (.tup (.cons (.cal 15 (.cons (.var 4) (.cons (.cal 22 (.cons (.var 5) .nil)) .nil))) (.cons (.cal 48 (.cons (.var 4) (.cons (.var 5) (.cons (.cal 14 (.cons (.var 4) (.cons (.cst (.int 7)) .nil))) .nil)))) .nil)))) (.seq (.asg 9 (.mut (.lst .nil))) (.seq (.for [10] (.iseq (.cal 142 (.cons (.var 5) .nil))) f166_b0) (.seq (.ifs (.bin .ne (.cal 165 (.cons (.var 5) (.cons (.var 11) (.cons (.var 12) .nil)))) (.pri .sorted (.cons (.var 9) .nil))) (.seq (.ret (.cst (.bl false))) .nop) .nop) .nop)))
def f166_b2 : St := .seq (.asg 4 (.cal 13 (.cons (.var 0) (.cons (.var 1) .nil)))) (.seq (.asg 5 (.cal 24 (.cons (.var 4) .nil))) (.seq (.for [6] (.irng (.cst (.int 4))) f166_b1) (.seq (.ifs (.bin .ne (.lam (.cal 165 (.cons (.var 5) (.cons (.cst .non) (.cons (.cst .non) .nil))))) (.cst (.str [97, 108, 112, 104, 97, 98, 101, 116, 32, 118, 97, 108, 117, 101]))) (.seq (.ret (.cst (.bl false))) .nop) .nop) (.seq (.ifs (.bin .ne (.lam (.cal 165 (.cons (.var 5) (.cons (.var 11) (.cons (.cst .non) .nil))))) (.cst (.str [119, 111, 114, 100, 115, 32, 118, 97, 108, 117, 101]))) (.seq (.ret (.cst (.bl false))) .nop) .nop) .nop))))
theorem n166 : f166.body = .seq (.for [1] (.irng (.pri .max2 (.cons (.cst (.int 6)) (.cons (.pri .min2 (.cons (.cst (.int 14)) (.cons (.pri .len (.cons (.var 0) .nil)) .nil))) .nil)))) f166_b2) (.seq (.unp [7, 8] (.tup (.cons (.tup (.cons (.cst (.int 3)) (.cons (.tup .nil) (.cons (.cst (.str [])) .nil)))) (.cons (.tup (.cons (.cst (.str [97])) (.cons (.cst (.str [98])) (.cons (.cst (.str [99])) .nil)))) .nil)))) (.seq (.asg 2 (.lst (.cons (.cal 165 (.cons (.var 7) (.cons (.var 8) (.cons (.tup (.cons (.cst (.str [97])) (.cons (.cst (.str [97, 98])) (.cons (.cst (.str [97, 99])) .nil)))) .nil)))) (.cons (.cal 165 (.cons (.var 7) (.cons (.var 8) (.cons (.tup (.cons (.cst (.str [99, 97])) (.cons (.cst (.str [99, 98])) .nil))) .nil)))) (.cons (.cal 165 (.cons (.var 7) (.cons (.var 8) (.cons (.var 8) .nil)))) .nil))))) (.seq (.ifs (.bin .ne (.var 2) (.lst (.cons (.lst (.cons (.tup (.cons (.cst (.str [97])) (.cons (.cst (.str [98])) .nil))) .nil)) (.cons (.lst (.cons (.tup (.cons (.cst (.str [98])) (.cons (.cst (.str [99])) .nil))) .nil)) (.cons (.lst .nil) .nil))))) (.seq (.ret (.cst (.bl false))) .nop) .nop) (.seq (.asg 3 (.tup (.cons (.cst (.int 2)) (.cons (.tup (.cons (.cst (.str [98, 97])) .nil)) (.cons (.cst (.str [])) .nil))))) (.seq (.ret (.bin .eq (.cal 165 (.cons (.var 3) (.cons (.tup (.cons (.cst (.str [97])) (.cons (.cst (.str [98])) (.cons (.cst (.str [98, 97])) .nil)))) (.cons (.tup (.cons (.cst (.str [98])) (.cons (.cst (.str [98, 97])) .nil))) .nil)))) (.lst (.cons (.tup (.cons (.cst (.str [97])) (.cons (.cst (.str [98])) .nil))) .nil)))) .nop))))) := by rfl
variable {n : Nat} {S : Store}
theorem lc_filx {α : Type} {F F2 : Orc} {ρ : Env} {elt cnd : Ex} {tg : List Nat} (inj : α → PV) (p : α → Bool) : ∀ {xs : List α}, (∀ x ∈ xs, ∀ S, ∃ ρ1 X, tgSet tg (inj x) ρ = some ρ1 ∧ ev cnd F F2 ρ1 S = .ok (.bl (p x)) (S ++ X) ∧ ∀ S, ev elt F F2 ρ1 S = .ok (inj x) S) → ∀ S, ∃ X, lcR F F2 ρ elt cnd tg (xs.map inj) S = .ok ((xs.filter p).map inj) (S ++ X)
  | [], _, S => ⟨[], by rw [List.append_nil]; rfl⟩
  | x :: xs, h, S => by
    obtain ⟨ρ1, X1, h1, h2, h3⟩ := h x List.mem_cons_self S
    obtain ⟨X2, e⟩ := lc_filx inj p (xs := xs) (fun y hy => h y (List.mem_cons_of_mem _ hy)) (S ++ X1)
    refine ⟨X1 ++ X2, ?_⟩
    unfold lcR at e ⊢
    rw [List.map_cons]
    unfold lcGo
    rw [if_pos (show gk none S = true from rfl), h1]
    simp only [h2, R.bind, asB]
    rw [List.filter_cons]
    cases hp : p x with
    | true =>
      simp only [h3, if_true, List.map_cons]
      rw [e]
      simp only [List.append_assoc]
    | false =>
      simp only [Bool.false_eq_true, if_false]
      rw [e]
      simp only [List.append_assoc]
def swp (a b s : Wd) : Wd := if s = a then b else if s = b then a else s
theorem lk2 (a b s : Wd) : (([(a, PV.str b), (b, PV.str a)] : List (Wd × PV)).lookup s).getD (.str s) = .str (swp a b s) := by
  unfold swp
  by_cases h : s = a
  · subst h
    rw [List.lookup_cons_self, if_pos rfl]; rfl
  · have h1 : (s == a) = false := by simpa using h
    rw [List.lookup_cons, h1, if_neg h]
    by_cases k : s = b
    · subst k
      rw [List.lookup_cons_self, if_pos rfl]; rfl
    · have k1 : (s == b) = false := by simpa using k
      rw [List.lookup_cons, k1, if_neg k]; rfl
theorem swp_swp (a b s : Wd) : swp a b (swp a b s) = s := by
  unfold swp
  by_cases h : s = a
  · subst h
    rw [if_pos rfl]
    by_cases k : b = s
    · rw [if_pos k]; exact k
    · rw [if_neg k, if_pos rfl]
  · rw [if_neg h]
    by_cases k : s = b
    · subst k
      rw [if_pos rfl, if_pos rfl]
    · rw [if_neg k, if_neg h, if_neg k]
def exA (al : List Wd) (l : Wd × Wd) : List Wd := al.map (swp l.1 l.2)
theorem exA_mem {al : List Wd} {l : Wd × Wd} (h1 : l.1 ∈ al) (h2 : l.2 ∈ al) {s : Wd} (h : s ∈ al) : s ∈ exA al l := by
  refine List.mem_map.mpr ⟨swp l.1 l.2 s, ?_, swp_swp _ _ _⟩
  unfold swp
  split
  · exact h2
  · split
    · exact h1
    · exact h
theorem exA_gd {m : Mn} {al : List Wd} {l : Wd × Wd} (h1 : l.1 ∈ al) (h2 : l.2 ∈ al) {w : Wd} (g : Gd m al w) : Gd m (exA al l) w := ⟨g.1, fun s hs => exA_mem h1 h2 (g.2 s hs)⟩
theorem r_exchanged {al : List Wd} {l : Wd × Wd} (h : l.1 ≠ l.2) : ∃ X, run P (n + 1) 164 [tS al, kk l] S = .ok (tS (exA al l)) (S ++ X) := by
  refine ⟨[.dis [(l.1, .str l.2), (l.2, .str l.1)]], ?_⟩
  have hq : (S ++ [MO.dis [(l.1, .str l.2), (l.2, .str l.1)]])[S.length]? = some (.dis [(l.1, .str l.2), (l.2, .str l.1)]) := st_get
  rw [run_def l164 rfl]
  simp? only [f164, if_neg h]
  rw [lc_all PV.str (fun s => PV.str (swp l.1 l.2 s)) (fun s hs => ⟨_, rfl, by simp? only [isD hq, p_dget hq, lk2]⟩)]
  have e : (al.map fun s => PV.str (swp l.1 l.2 s)) = (exA al l).map .str := by unfold exA; rw [List.map_map]; rfl
  rw [e]
  simp? only []
def insK (x : Wd × Wd) : List (Wd × Wd) → List (Wd × Wd)
  | [] => [x]
  | y :: r => if pvlt (kk y) (kk x) then y :: insK x r else x :: y :: r
def srtK : List (Wd × Wd) → List (Wd × Wd)
  | [] => []
  | x :: r => insK x (srtK r)
theorem pins_kk (x : Wd × Wd) : ∀ l : List (Wd × Wd), pins (kk x) (l.map kk) = (insK x l).map kk
  | [] => rfl
  | y :: r => by
    rw [List.map_cons]
    unfold pins insK
    rw [pins_kk x r]
    cases pvlt (kk y) (kk x) <;> rfl
theorem psort_kk : ∀ l : List (Wd × Wd), psort (l.map kk) = (srtK l).map kk
  | [] => rfl
  | x :: r => by
    rw [List.map_cons]
    unfold psort srtK
    rw [psort_kk r, pins_kk]
theorem kk_dt (l : Wd × Wd) : Dt 1 (kk l) := Dt.tupS [l.1, l.2]
theorem p_sorted_kk (l : List (Wd × Wd)) (hl : l.length ≤ 1000) : pri .sorted [.lst (l.map kk)] S = .ok (.lst ((srtK l).map kk)) S := by
  cases l with
  | nil => rfl
  | cons x r =>
    show (match allS ((x :: r).map kk) with
        | some ss => if ss.length < 64 then rok (.lst ((sortS ss).map .str)) S else .bad
        | none => if sortOk ((x :: r).map kk) then rok (.lst (psort ((x :: r).map kk))) S else .bad) = _
    have h1 : allS ((x :: r).map kk) = none := rfl
    have h2 : sortOk ((x :: r).map kk) = true := by
      unfold sortOk
      rw [Bool.or_eq_true]
      refine .inr ?_
      simp only [Bool.and_eq_true, Bool.or_eq_true, decide_eq_true_eq, List.length_map]
      refine ⟨⟨⟨?_, ?_⟩, .inl ?_⟩, by omega⟩
      · exact List.all_eq_true.mpr fun a ha => List.all_eq_true.mpr fun b hb => by
          obtain ⟨i, _, rfl⟩ := List.mem_map.mp ha
          obtain ⟨j, _, rfl⟩ := List.mem_map.mp hb
          rfl
      · exact List.all_eq_true.mpr fun a ha => by
          obtain ⟨i, _, rfl⟩ := List.mem_map.mp ha
          obtain ⟨d, e, hd⟩ := kk_dt i
          rw [e]
          exact decide_eq_true (by omega)
      · exact List.all_eq_true.mpr fun a ha => by
          obtain ⟨i, hi, rfl⟩ := List.mem_map.mp ha
          rfl
    rw [h1]
    simp only [h2, if_true]
    rw [psort_kk]; rfl
theorem p_sorted_res {q : Nat} {xs : List PV} (hq : S[q]? = some (.lst xs)) : pri .sorted [.ptr q] S = pri .sorted [.lst xs] S := by
  have e : ∀ x : PV, pri .sorted [x] S = (match res S x with
      | .tup xs => match allS xs with
        | some ss => if ss.length < 64 then rok (.lst ((sortS ss).map .str)) S else .bad
        | none => match allI xs with
          | some is => if is.length ≤ 1000 then rok (.lst ((sortL is).map .int)) S else .bad
          | none => .bad
      | .lst xs => match allS xs with
        | some ss => if ss.length < 64 then rok (.lst ((sortS ss).map .str)) S else .bad
        | none => if sortOk xs then rok (.lst (psort xs)) S else .bad
      | _ => .bad) := fun _ => rfl
  rw [e, e, res_ptr hq]; rfl
theorem p_tuple_res {q : Nat} {xs : List PV} (hq : S[q]? = some (.lst xs)) : pri .tuple [.ptr q] S = .ok (.tup xs) S := by
  have e : ∀ x : PV, pri .tuple [x] S = (match res S x with
      | .tup xs => rok (.tup xs) S
      | .lst xs => rok (.tup xs) S
      | _ => .bad) := fun _ => rfl
  rw [e, res_ptr hq]; rfl
theorem st_at {xs : List PV} {k : Nat} {v : PV} (h : k < xs.length) : stIdx (.ptr S.length) (.int (k : Int)) v (S ++ [.lst xs]) = some (S ++ [.lst (xs.set k v)]) := by
  show (match (S ++ [MO.lst xs])[S.length]? with
    | some (MO.lst ys) => match ixN ys.length k with
      | some k => some ((S ++ [MO.lst xs]).set S.length (.lst (ys.set k v)))
      | none => none
    | _ => none) = _
  rw [show (S ++ [MO.lst xs])[S.length]? = some (.lst xs) from st_get]
  simp only
  have e : ixN xs.length (k : Int) = some k := by
    unfold ixN
    rw [if_pos (by omega), if_pos (by omega)]; simp
  rw [e]
  simp only [st_set]
theorem st_same {q : Nat} {o : MO} (h : S[q]? = some o) : S.set q o = S := by
  obtain ⟨l, e⟩ := List.getElem?_eq_some_iff.mp h
  rw [← e, List.set_getElem_self]
theorem nd_at {α : Type} {l : List α} (nd : l.Nodup) {i j : Nat} {a : α} (h : l[i]? = some a) (h' : l[j]? = some a) : i = j := by
  obtain ⟨l1, e1⟩ := List.getElem?_eq_some_iff.mp h
  obtain ⟨l2, e2⟩ := List.getElem?_eq_some_iff.mp h'
  have pw := List.pairwise_iff_getElem.mp nd
  rcases Nat.lt_trichotomy i j with z | z | z
  · exact absurd (e1.trans e2.symm) (pw i j l1 l2 z)
  · exact z
  · exact absurd (e2.trans e1.symm) (pw j i l2 l1 z)
theorem set_swp {al : List Wd} (nd : al.Nodup) {a b : Wd} (ha : a ∈ al) (hb : b ∈ al) (hab : a ≠ b) : (al.set (al.idxOf a) b).set (al.idxOf b) a = al.map (swp a b) := by
  have la := List.idxOf_lt_length_of_mem ha
  have lb := List.idxOf_lt_length_of_mem hb
  have ea : al[al.idxOf a]? = some a := by rw [List.getElem?_eq_getElem la]; exact congrArg some (List.getElem_idxOf la)
  have eb : al[al.idxOf b]? = some b := by rw [List.getElem?_eq_getElem lb]; exact congrArg some (List.getElem_idxOf lb)
  refine List.ext_getElem? fun k => ?_
  rw [List.getElem?_map]
  by_cases k1 : al.idxOf b = k
  · rw [← k1, List.getElem?_set_self (by rw [List.length_set]; exact lb), eb]
    show some a = some (swp a b b)
    unfold swp
    rw [if_neg (fun e => hab e.symm), if_pos rfl]
  · rw [List.getElem?_set_ne k1]
    by_cases k2 : al.idxOf a = k
    · rw [← k2, List.getElem?_set_self la, ea]
      show some b = some (swp a b a)
      unfold swp
      rw [if_pos rfl]
    · rw [List.getElem?_set_ne k2]
      cases e : al[k]? with
      | none => rfl
      | some s =>
        show some s = some (swp a b s)
        unfold swp
        rw [if_neg (fun z => k2 (nd_at nd ea (by rw [← z]; exact e))), if_neg (fun z => k1 (nd_at nd eb (by rw [← z]; exact e)))]
theorem b_ne_kkL (a : List (Wd × Wd)) : b2 .ne (.lst (a.map kk)) (.lst (a.map kk)) S = .ok (.bl false) S := by
  show (if eqOk (.lst (a.map kk)) (.lst (a.map kk)) then rok (.bl (!pveqL (a.map kk) (a.map kk))) S else .bad) = _
  have d : Dt 2 (.lst (a.map kk)) := Dt.lst (d := 1) fun x hx => by obtain ⟨r, _, rfl⟩ := List.mem_map.mp hx; exact kk_dt r
  have r : ∀ a : List (Wd × Wd), pveqL (a.map kk) (a.map kk) = true := fun a => by
    induction a with
    | nil => rfl
    | cons x r ih =>
      show (pveq (kk x) (kk x) && pveqL (r.map kk) (r.map kk)) = true
      rw [ih]
      simp [kk, pveq, pveqL]
  rw [if_pos (d.ok d (by decide)), r]; rfl
def exq (m : Mn) (al ws : List Wd) (l : Wd × Wd) : Bool := decide (ord (ahead m (exA al l)) ws = ord (ahead m al) ws)
theorem r_exchanges {m : Mn} {al : List Wd} (h : m.Ok) (ha : al ∈ alps m) {ws : List Wd} (hw : areW m ws 0 8 = true) (hg : ∀ w ∈ ws, Gd m al w) : ∃ X, run P (n + 7) 165 [mP m, tS al, tS ws] S = .ok (.lst ((srtK ((looks (signs m)).filter (exq m al ws))).map kk)) (S ++ X) := by
  have A := alps_alp h ha
  have pm := alps_perm h ha
  obtain ⟨_, h2, _⟩ := areW_of hw
  have hl : ws.length ≤ 1000 := by omega
  have hk := looks_len (signs_six h)
  obtain ⟨X, e⟩ := lc_filx (F := run P (n + 6)) (F2 := run P (n + 6 - 2)) (ρ := [some (mP m), some (tS al), some (tS ws), some (tS (ord (ahead m al) ws)), none]) (elt := .var 4) (cnd := .bin .eq (.cal 64 (.cons (.var 0) (.cons (.cal 164 (.cons (.var 1) (.cons (.var 4) .nil))) (.cons (.var 2) .nil)))) (.var 3)) (tg := [4]) kk (exq m al ws) (xs := looks (signs m)) (fun l hlk S => by
    obtain ⟨k1, k2, k3⟩ := look_mem (signs_nd h) hlk
    obtain ⟨X, ex⟩ := r_exchanged (n := n + 5) (S := S) (al := al) k3
    refine ⟨_, X, rfl, ?_, fun S => by simp? only []⟩
    have eo := r_ordered (n := n + 1) (S := S ++ X) A.ok.two' hl (fun w hw => exA_gd (pm.mem_iff.mpr k1) (pm.mem_iff.mpr k2) (hg w hw))
    simp? only [ex, eo]
    rfl) S
  refine ⟨X, ?_⟩
  rw [run_def l165 rfl]
  simp? only [f165, r_need_manner A.ok, r_need_alphabet A.ok.pl A.len A.has, r_need_words hw, r_ordered A.ok.two' hl hg, r_all_looks h]
  rw [e]
  simp? only []
  rw [p_sorted_kk _ (Nat.le_trans (List.length_filter_le _ _) (by omega))]
  simp? only []
theorem L13_b0 {m : Mn} (h : m.Ok) {al : List Wd} (ha : al ∈ alps m) {ws : List Wd} (hl : ws.length ≤ 1000) (hg : ∀ w ∈ ws, w.length ≤ 8 ∧ Gd m al w) {l : Wd × Wd} (hk : l ∈ looks (signs m)) {q : Nat} {acc : List (Wd × Wd)} (hq : S[q]? = some (.lst (acc.map kk))) (hc : acc.length < 1000000) {F2 : Orc} (x0 x1 x2 x3 x4 x6 x7 x8 x13 x14 x15 : Option PV) :
    ∃ y13 y14 y15 X, evS f166_b0 (run P 29) F2 [x0, x1, x2, x3, x4, some (mP m), x6, x7, x8, some (.ptr q), some (kk l), some (tS al), some (tS ws), x13, x14, x15] S = .nx [x0, x1, x2, x3, x4, some (mP m), x6, x7, x8, some (.ptr q), some (kk l), some (tS al), some (tS ws), y13, y14, y15] ((S ++ X).set q (.lst ((acc ++ if exq m al ws l then [l] else []).map kk))) := by
  have pm := alps_perm h ha
  have nd : al.Nodup := pm.symm.nodup (signs_nd h)
  obtain ⟨k1, k2, k3⟩ := look_mem (signs_nd h) hk
  have m1 := pm.mem_iff.mpr k1
  have m2 := pm.mem_iff.mpr k2
  have l1 := List.idxOf_lt_length_of_mem m1
  have l2 := List.idxOf_lt_length_of_mem m2
  have s1 := st_at (S := S) (xs := al.map PV.str) (k := al.idxOf l.1) (v := .str l.2) (by rw [List.length_map]; exact l1)
  have s2 := st_at (S := S) (xs := (al.map PV.str).set (al.idxOf l.1) (.str l.2)) (k := al.idxOf l.2) (v := .str l.1) (by rw [List.length_set, List.length_map]; exact l2)
  have es : ((al.map PV.str).set (al.idxOf l.1) (.str l.2)).set (al.idxOf l.2) (.str l.1) = (exA al l).map .str := by
    rw [← List.map_set, ← List.map_set, set_swp nd m1 m2 k3]; rfl
  rw [es] at s2
  have ht := p_tuple_res (S := S ++ [.lst ((exA al l).map .str)]) (q := S.length) (xs := (exA al l).map .str) st_get
  have e1 : ∀ S, run P 29 68 [mP m, tS (exA al l), tS ws] S = _ := fun S => r_law_sorted (n := 17) h.two' hl (fun w hw => (hg w hw).1) fun w hw => exA_gd m1 m2 (hg w hw).2
  have e2 : ∀ S, run P 29 68 [mP m, tS al, tS ws] S = _ := fun S => r_law_sorted (n := 17) h.two' hl (fun w hw => (hg w hw).1) fun w hw => (hg w hw).2
  rw [sel_ord (ahead_to m (exA al l)) fun w hw => exA_gd m1 m2 (hg w hw).2] at e1
  rw [sel_ord (ahead_to m al) fun w hw => (hg w hw).2] at e2
  have lq : q < S.length := (List.getElem?_eq_some_iff.mp hq).1
  have hq3 : (S ++ [MO.lst ((exA al l).map .str), .lst [], .lst []])[q]? = some (.lst (acc.map kk)) := by rw [List.getElem?_append_left lq]; exact hq
  refine ⟨some (.ptr S.length), some (.int (al.idxOf l.1 : Nat)), some (.int (al.idxOf l.2 : Nat)), [.lst ((exA al l).map .str), .lst [], .lst []], ?_⟩
  simp? only [f166_b0, p_index_tupS al l.1 m1, p_index_tupS al l.2 m2]
  rw [q_u3 _ _ _ _ _ _ _ s1]
  simp? only []
  rw [q_u6 _ _ _ _ s2]
  simp? only [ht, e1, e2]
  have ed : decide (ord (ahead m (exA al l)) ws = ord (ahead m al) ws) = exq m al ws l := rfl
  rw [ed]
  have e3 : S ++ [MO.lst ((exA al l).map .str)] ++ [MO.lst []] ++ [MO.lst []] = S ++ [MO.lst ((exA al l).map .str), .lst [], .lst []] := by simp
  rw [e3]
  cases exq m al ws l with
  | true =>
    simp? only [isL hq3, p_append (v := kk l) hq3 (by rw [List.length_map]; exact hc)]
    rw [List.map_append]; rfl
  | false =>
    simp? only [List.append_nil]
    rw [st_same hq3]
theorem L13_go {m : Mn} (h : m.Ok) {al : List Wd} (ha : al ∈ alps m) {ws : List Wd} (hl : ws.length ≤ 1000) (hg : ∀ w ∈ ws, w.length ≤ 8 ∧ Gd m al w) {p q : Nat} (hpq : q ≠ p) {F2 : Orc} (x0 x1 x2 x3 x4 x6 x7 x8 : Option PV) :
    ∀ (ls : List (Wd × Wd)) (acc : List (Wd × Wd)) (S : Store) (x10 x13 x14 x15 : Option PV), (∀ l ∈ ls, l ∈ looks (signs m)) → acc.length + ls.length ≤ 1000 → S[q]? = some (.lst (acc.map kk)) → Vat S p →
      ∃ y10 y13 y14 y15 S', foR (run P 29) F2 [x0, x1, x2, x3, x4, some (mP m), x6, x7, x8, some (.ptr q), x10, some (tS al), some (tS ws), x13, x14, x15] [10] f166_b0 (ls.map kk) S = .nx [x0, x1, x2, x3, x4, some (mP m), x6, x7, x8, some (.ptr q), y10, some (tS al), some (tS ws), y13, y14, y15] S' ∧ S'[q]? = some (.lst ((acc ++ ls.filter (exq m al ws)).map kk)) ∧ Vat S' p
  | [], acc, S, x10, x13, x14, x15, _, _, hq, hv => ⟨x10, x13, x14, x15, S, rfl, by rw [List.filter_nil, List.append_nil]; exact hq, hv⟩
  | l :: ls, acc, S, x10, x13, x14, x15, hk, hc, hq, hv => by
    rw [List.length_cons] at hc
    obtain ⟨z13, z14, z15, X, e⟩ := L13_b0 (F2 := F2) h ha hl hg (hk l List.mem_cons_self) hq (by omega) x0 x1 x2 x3 x4 x6 x7 x8 x13 x14 x15
    have lq : q < S.length := (List.getElem?_eq_some_iff.mp hq).1
    have hq2 : ((S ++ X).set q (.lst ((acc ++ if exq m al ws l then [l] else []).map kk)))[q]? = some (.lst ((acc ++ if exq m al ws l then [l] else []).map kk)) := List.getElem?_set_self (by rw [List.length_append]; omega)
    have hv2 : Vat ((S ++ X).set q (.lst ((acc ++ if exq m al ws l then [l] else []).map kk))) p := by
      obtain ⟨a, b, h1, r⟩ := (Dr.push hv X).v
      exact ⟨a, b, by rw [List.getElem?_set_ne hpq]; exact h1, r⟩
    obtain ⟨y10, y13, y14, y15, S', e2, h2, h3⟩ := L13_go h ha hl hg hpq x0 x1 x2 x3 x4 x6 x7 x8 ls (acc ++ if exq m al ws l then [l] else []) _ (some (kk l)) z13 z14 z15 (fun a h' => hk a (List.mem_cons_of_mem _ h')) (by rw [List.length_append]; split <;> simp <;> omega) hq2 hv2
    refine ⟨y10, y13, y14, y15, S', ?_, ?_, h3⟩
    · rw [List.map_cons, fo_cons]
      simp only [tg_1, fo_t, List.set_cons_succ, List.set_cons_zero]
      rw [e, fo_nx, e2]
    · rw [h2, List.filter_cons, List.append_assoc]
      cases exq m al ws l <;> rfl
theorem L13_b1 {p : Nat} {m : Mn} (h : m.Ok) (hv : Vat S p) (x0 x1 x2 x3 x6 x7 x8 x9 x10 x11 x12 x13 x14 x15 : Option PV) :
    ∃ al y9 y10 y12 y13 y14 y15 S', al ∈ alps m ∧ evS f166_b1 (run P 29) (run P 27) [x0, x1, x2, x3, some (.ptr p), some (mP m), x6, x7, x8, x9, x10, x11, x12, x13, x14, x15] S = .nx [x0, x1, x2, x3, some (.ptr p), some (mP m), x6, x7, x8, y9, y10, some (tS al), y12, y13, y14, y15] S' ∧ Vat S' p := by
  have e0 : run P 29 22 [mP m] S = _ := r_law_alphabets h
  obtain ⟨al, S1, hal, d1, e1⟩ := r_some_alp (n := 27) h hv
  have e1 : run P 29 15 [.ptr p, lT (alps m)] S = .ok (tS al) S1 := e1
  obtain ⟨k, S2, hk, d2, e2⟩ := r_under (n := 28) d1.v (m := 7) (by decide) (by decide)
  have e2 : run P 29 14 [.ptr p, .int 7] S1 = .ok (.int (k : Int)) S2 := e2
  obtain ⟨ws, S3, hws, hlen, d3, e3⟩ := r_law_words (n := 25) h.lo k (by omega) d2.v
  have e3 : run P 29 48 [.ptr p, mP m, .int (k : Int)] S2 = .ok (tS ws) S3 := e3
  have gw : ∀ w ∈ ws, w.length ≤ 8 ∧ Gd m al w := fun w hw => ⟨(hws w hw).2, gd_of h hal (hws w hw).1 (hws w hw).2⟩
  have hw8 : areW m ws 0 8 = true := areW_ok (fun w hw => (hws w hw).1.hasW (hws w hw).2) (by omega) (by omega)
  have d4 : Dr p S3 (S3 ++ [.lst []]) := Dr.push d3.v _
  have hq : (S3 ++ [MO.lst []])[S3.length]? = some (.lst (([] : List (Wd × Wd)).map kk)) := st_get
  have hpq : S3.length ≠ p := by have := d3.v.lt; omega
  have e4 : run P 29 142 [mP m] (S3 ++ [.lst []]) = _ := r_law_looks h
  have hk6 := looks_len (signs_six h)
  obtain ⟨y10, y13, y14, y15, S5, e5, hq5, hv5⟩ := L13_go h hal (by omega : ws.length ≤ 1000) gw hpq (F2 := run P 27) x0 x1 x2 x3 (some (.ptr p)) x6 x7 x8 (looks (signs m)) [] (S3 ++ [.lst []]) x10 x13 x14 x15 (fun l hl => hl) (by simp only [List.length_nil]; omega) hq d4.v
  rw [List.nil_append] at hq5
  obtain ⟨X, e6⟩ := r_exchanges (n := 22) (S := S5) h hal hw8 fun w hw => (gw w hw).2
  have e6 : run P 29 165 [mP m, tS al, tS ws] S5 = _ := e6
  have hq6 : (S5 ++ X)[S3.length]? = some (.lst (((looks (signs m)).filter (exq m al ws)).map kk)) := by rw [List.getElem?_append_left (List.getElem?_eq_some_iff.mp hq5).1]; exact hq5
  have e7 := (p_sorted_res hq6).trans (p_sorted_kk _ (Nat.le_trans (List.length_filter_le _ _) (by omega)))
  refine ⟨al, some (.ptr S3.length), y10, some (tS ws), y13, y14, y15, S5 ++ X, hal, ?_, (Dr.push hv5 X).v⟩
  simp? only [f166_b1, e0, e1, e2, e3, e4]
  rw [e5]
  simp? only [e6, e7, b_ne_kkL]
theorem xa1 : excWord 1 = [97, 108, 112, 104, 97, 98, 101, 116, 32, 118, 97, 108, 117, 101] := by decide +kernel
theorem xa3 : excWord 3 = [119, 111, 114, 100, 115, 32, 118, 97, 108, 117, 101] := by decide +kernel
theorem ex_a {m : Mn} (h : m.Ok) {v : PV} : run P (n + 4) 165 [mP m, .non, v] S = .exc 1 .non S := by
  have e : run P (n + 3) 57 [mP m, .non] S = .exc 1 .non S := r_need_alphabet_no trivial
  rw [run_def l165 rfl]
  simp? only [f165, r_need_manner h, e]
theorem ex_w {m : Mn} (h : m.Ok) {al : List Wd} (ha : al ∈ alps m) : run P (n + 5) 165 [mP m, tS al, .non] S = .exc 3 .non S := by
  have A := alps_alp h ha
  have e : run P (n + 4) 56 [mP m, .non] S = .exc 3 .non S := r_need_words_no trivial
  rw [run_def l165 rfl]
  simp? only [f165, r_need_manner A.ok, r_need_alphabet A.ok.pl A.len A.has, e]
theorem L13_body (ns : List Int) (k : Nat) (x2 x3 x4 x5 x6 x7 x8 x9 x10 x11 x12 x13 x14 x15 : Option PV) : ∃ y4 y5 y6 y9 y10 y11 y12 y13 y14 y15 S', evS f166_b2 (run P 29) (run P 27) [some (.scr ns), some (.int (k : Int)), x2, x3, x4, x5, x6, x7, x8, x9, x10, x11, x12, x13, x14, x15] S = .nx [some (.scr ns), some (.int (k : Int)), x2, x3, y4, y5, y6, x7, x8, y9, y10, y11, y12, y13, y14, y15] S' := by
  obtain ⟨va, vb, v1, v2, v3, e1⟩ := r_vat (n := 28) (S := S) ns k
  have hv : Vat (S ++ [.lst [.int va, .int vb]]) S.length := ⟨va, vb, st_get, v1, v2, v3⟩
  obtain ⟨m, S2, dm, d2, e2⟩ := r_law_manner (n := 26) hv
  obtain ⟨a0, z9, z10, z12, z13, z14, z15, S3, ha0, eb, hv3⟩ := L13_b1 (S := S2) dm.ok d2.v (some (.scr ns)) (some (.int (k : Int))) x2 x3 (some (.int 0)) x7 x8 x9 x10 x11 x12 x13 x14 x15
  obtain ⟨ρ', S4, e5, al, y6, y9, y10, y12, y13, y14, y15, hal, rfl, hv4⟩ := for_inv (F := run P 29) (F2 := run P 27) (tg := [6]) (b := f166_b1) (fun ρ S' => ∃ al y6 y9 y10 y12 y13 y14 y15, al ∈ alps m ∧ ρ = [some (.scr ns), some (.int (k : Int)), x2, x3, some (.ptr S.length), some (mP m), y6, x7, x8, y9, y10, some (tS al), y12, y13, y14, y15] ∧ Vat S' S.length) [.int 1, .int 2, .int 3] (fun x hx ρ S' ⟨al, y6, y9, y10, y12, y13, y14, y15, ha, h1, hv'⟩ => by
    subst h1
    obtain ⟨a1, w9, w10, w12, w13, w14, w15, S'', ha1, e, hv''⟩ := L13_b1 (S := S') dm.ok hv' (some (.scr ns)) (some (.int (k : Int))) x2 x3 (some x) x7 x8 y9 y10 (some (tS al)) y12 y13 y14 y15
    exact ⟨_, rfl, _, _, e, a1, _, _, _, _, _, _, _, ha1, rfl, hv''⟩) [some (.scr ns), some (.int (k : Int)), x2, x3, some (.ptr S.length), some (mP m), some (.int 0), x7, x8, z9, z10, some (tS a0), z12, z13, z14, z15] S3 ⟨a0, _, _, _, _, _, _, _, ha0, rfl, hv3⟩
  have e6 : ∀ v, run P 27 165 [mP m, .non, v] S4 = _ := fun v => ex_a dm.ok
  have e7 : run P 27 165 [mP m, tS al, .non] S4 = _ := ex_w dm.ok hal
  refine ⟨some (.ptr S.length), some (mP m), y6, y9, y10, some (tS al), y12, y13, y14, y15, S4, ?_⟩
  simp? only [f166_b2, e1, e2]
  rw [k_rng 4 (by decide)]
  simp? only []
  rw [show rangeP 4 = [PV.int 0, .int 1, .int 2, .int 3] from rfl, fo_cons]
  simp only [tg_1, fo_t, List.set_cons_succ, List.set_cons_zero]
  rw [eb, fo_nx, e5]
  simp? only [e6, e7, k_lamx 1 .non (by decide), k_lamx 3 .non (by decide), xa1, xa3]
theorem mem_rangeP13 {n : Int} {x : PV} (h : x ∈ rangeP n) : ∃ k : Nat, x = .int (k : Int) := by
  unfold rangeP at h
  obtain ⟨i, _, rfl⟩ := List.mem_map.mp h
  exact ⟨i, rfl⟩
def mA : Mn := ⟨3, [], []⟩
def mB : Mn := ⟨2, [[98, 97]], []⟩
theorem mA_ok : mA.Ok := ⟨by decide, by decide, by decide, (fun p h => nomatch h), (fun i h => absurd h (by show ¬ (i + 1 < 0); omega)), by decide⟩
theorem mB_ok : mB.Ok := ⟨by decide, by decide, by decide, (fun p h => by rw [List.mem_singleton.mp h]; decide), (fun i h => absurd h (by show ¬ (i + 1 < 1); omega)), by decide⟩
theorem exl {m : Mn} (h : m.Ok) {al ws : List Wd} (r : List (Wd × Wd)) (ha : al ∈ alps m) (hw : areW m ws 0 8 = true) (hg : (ws.all fun w => decide (w.length ≤ 1000) && (rowL m.pairs w).all fun s => al.contains s) = true) (hr : srtK ((looks (signs m)).filter (exq m al ws)) = r) : ∃ X, run P 29 165 [mP m, tS al, tS ws] S = .ok (.lst (r.map kk)) (S ++ X) := by
  obtain ⟨X, e⟩ := r_exchanges (n := 22) (S := S) h ha hw fun w hw => by
    have := List.all_eq_true.mp hg w hw
    rw [Bool.and_eq_true] at this
    refine ⟨of_decide_eq_true this.1, fun s hs => ?_⟩
    have := List.all_eq_true.mp this.2 s hs
    simpa using this
  rw [hr] at e
  exact ⟨X, e⟩
theorem maths13 (ns : List Int) : ∃ S', run P 30 166 [.scr ns] [] = .ok (.bl true) S' := by
  obtain ⟨ρ', S', e, x1, x2, x3, x4, x5, x6, x7, x8, x9, x10, x11, x12, x13, x14, x15, rfl⟩ := for_inv (F := run P 29) (F2 := run P 27) (tg := [1]) (b := f166_b2) (fun ρ S => ∃ x1 x2 x3 x4 x5 x6 x7 x8 x9 x10 x11 x12 x13 x14 x15, ρ = [some (.scr ns), x1, x2, x3, x4, x5, x6, x7, x8, x9, x10, x11, x12, x13, x14, x15]) (rangeP (if (if (ns.length : Int) < 14 then (ns.length : Int) else 14) > 6 then (if (ns.length : Int) < 14 then (ns.length : Int) else 14) else 6)) (fun x hx ρ S ⟨x1, x2, x3, x4, x5, x6, x7, x8, x9, x10, x11, x12, x13, x14, x15, h⟩ => by
    subst h
    obtain ⟨k, rfl⟩ := mem_rangeP13 hx
    obtain ⟨y4, y5, y6, y9, y10, y11, y12, y13, y14, y15, S', e⟩ := L13_body (S := S) ns k x2 x3 x4 x5 x6 x7 x8 x9 x10 x11 x12 x13 x14 x15
    exact ⟨_, rfl, _, _, e, _, _, _, _, _, _, _, _, _, _, _, _, _, _, _, rfl⟩) [some (.scr ns), none, none, none, none, none, none, none, none, none, none, none, none, none, none, none] [] ⟨_, _, _, _, _, _, _, _, _, _, _, _, _, _, _, rfl⟩
  rw [run_def l166 rfl, n166]
  simp? only [show f166.nl = 16 from rfl, show f166.ar = 1 from rfl]
  rw [k_rng _ (by split <;> (try split) <;> omega)]
  simp? only []
  rw [e]
  have hal : ([[97], [98], [99]] : List Wd) ∈ alps mA := by decide +kernel
  obtain ⟨X1, l1⟩ := exl (S := S') mA_ok (al := [[97], [98], [99]]) (ws := [[97], [97, 98], [97, 99]]) [([97], [98])] hal (by decide +kernel) (by decide +kernel) (by decide +kernel)
  obtain ⟨X2, l2⟩ := exl (S := S' ++ X1) mA_ok (al := [[97], [98], [99]]) (ws := [[99, 97], [99, 98]]) [([98], [99])] hal (by decide +kernel) (by decide +kernel) (by decide +kernel)
  obtain ⟨X3, l3⟩ := exl (S := S' ++ X1 ++ X2) mA_ok (al := [[97], [98], [99]]) (ws := [[97], [98], [99]]) [] hal (by decide +kernel) (by decide +kernel) (by decide +kernel)
  obtain ⟨X4, l4⟩ := exl (S := S' ++ X1 ++ X2 ++ X3) mB_ok (al := [[97], [98], [98, 97]]) (ws := [[98], [98, 97]]) [([97], [98])] (by decide +kernel) (by decide +kernel) (by decide +kernel) (by decide +kernel)
  have l1' : run P 29 165 [.tup [.int 3, .tup [], .str []], .tup [.str [97], .str [98], .str [99]], .tup [.str [97], .str [97, 98], .str [97, 99]]] S' = .ok (.lst [.tup [.str [97], .str [98]]]) (S' ++ X1) := l1
  have l2' : run P 29 165 [.tup [.int 3, .tup [], .str []], .tup [.str [97], .str [98], .str [99]], .tup [.str [99, 97], .str [99, 98]]] (S' ++ X1) = .ok (.lst [.tup [.str [98], .str [99]]]) (S' ++ X1 ++ X2) := l2
  have l3' : run P 29 165 [.tup [.int 3, .tup [], .str []], .tup [.str [97], .str [98], .str [99]], .tup [.str [97], .str [98], .str [99]]] (S' ++ X1 ++ X2) = .ok (.lst []) (S' ++ X1 ++ X2 ++ X3) := l3
  have l4' : run P 29 165 [.tup [.int 2, .tup [.str [98, 97]], .str []], .tup [.str [97], .str [98], .str [98, 97]], .tup [.str [98], .str [98, 97]]] (S' ++ X1 ++ X2 ++ X3) = .ok (.lst [.tup [.str [97], .str [98]]]) (S' ++ X1 ++ X2 ++ X3 ++ X4) := l4
  refine ⟨S' ++ X1 ++ X2 ++ X3 ++ X4, ?_⟩
  have b1 : ∀ S, b2 .ne (.lst [.lst [.tup [.str [97], .str [98]]], .lst [.tup [.str [98], .str [99]]], .lst []]) (.lst [.lst [.tup [.str [97], .str [98]]], .lst [.tup [.str [98], .str [99]]], .lst []]) S = .ok (.bl false) S := fun S => by kernel_rfl
  have b2' : ∀ S, b2 .eq (.lst [.tup [.str [97], .str [98]]]) (.lst [.tup [.str [97], .str [98]]]) S = .ok (.bl true) S := fun S => by kernel_rfl
  simp? only [l1', l2', l3', b1, l4', b2']
end K
end G
set_option maxHeartbeats 0
namespace K13
open PySem PySem.Spec PyProof.Rows L2
def top (i : Nat) : Stmt := PySem.Challenge.pw_anyalphabet_k13_signs_that_can_be_exchan.main.body.getD i (.Pass ⟨0, 0, 0, 0⟩)
def mo : G.Mo := ⟨([("is_whole", 18), ("is_of", 19), ("is_manner", 20), ("need_manner", 21), ("all_signs", 22), ("has_word", 23), ("are_words", 24), ("need_words", 25), ("has_alphabet", 26), ("need_alphabet", 27), ("row_of", 28), ("unlike_place", 30), ("without_last", 31), ("asked", 32), ("is_ahead", 33)] : List (PySem.Str × Nat)) ++ ([("filed", 34), ("ordered", 35), ("all_looks", 37), ("exchanged", 39), ("exchanges", 40), ("_law_vat", 42), ("_law_under", 43), ("_law_some", 44), ("_law_signs", 45), ("_law_alphabets", 46), ("_law_read", 47), ("_law_key", 48), ("_law_ahead", 49), ("_law_sorted", 50), ("_law_manner", 51)] : List (PySem.Str × Nat)) ++ ([("_law_word", 52), ("_law_words", 53), ("_law_looks", 54), ("_law_names", 55), ("_law_error", 56), ("law", 57)] : List (PySem.Str × Nat)), (["InvalidManner", "InvalidAlphabet", "InvalidWord", "InvalidWords", "InvalidFacts", "InvalidScript", "InvalidPlan", "InvalidPlace", "InvalidText", "Impossible", "Unlike", "NothingToUndo"] : List PySem.Str), (["AlphabetError", "TooMany"] : List PySem.Str), (["ValueError", "abs", "bool", "enumerate", "int", "isinstance", "len", "list", "max", "min", "range", "sorted", "str", "tuple", "zip"] : List PySem.Str), ([("LETTERS", .str [97, 98, 99, 100, 101]), ("MOST_SIGNS", .int 6)] : List (PySem.Str × G.Ct))⟩
def specs : List G.Sp1 := ([⟨"is_whole", 0, 18, (["value", "low", "high"] : List PySem.Str), false⟩, ⟨"is_of", 1, 19, (["letters", "value", "least", "most", "letter"] : List PySem.Str), false⟩, ⟨"is_manner", 2, 20, (["value", "letters", "many", "pairs", "last", "pair", "at"] : List PySem.Str), false⟩, ⟨"need_manner", 3, 21, (["manner"] : List PySem.Str), false⟩, ⟨"all_signs", 4, 22, (["manner"] : List PySem.Str), false⟩, ⟨"has_word", 5, 23, (["manner", "value"] : List PySem.Str), false⟩, ⟨"are_words", 32, 24, (["manner", "value", "least", "most", "word"] : List PySem.Str), false⟩, ⟨"need_words", 56, 25, (["manner", "words"] : List PySem.Str), false⟩, ⟨"has_alphabet", 7, 26, (["manner", "value", "sign"] : List PySem.Str), false⟩, ⟨"need_alphabet", 57, 27, (["manner", "alphabet"] : List PySem.Str), false⟩, ⟨"row_of", 11, 28, (["manner", "word", "found", "at", "size"] : List PySem.Str), false⟩, ⟨"unlike_place", 58, 30, (["one", "other", "first", "second"] : List PySem.Str), false⟩, ⟨"without_last", 59, 31, (["manner", "row", "sign"] : List PySem.Str), false⟩, ⟨"asked", 60, 32, (["manner", "one", "other", "found", "mine", "yours"] : List PySem.Str), false⟩, ⟨"is_ahead", 61, 33, (["manner", "alphabet", "one", "other", "found"] : List PySem.Str), false⟩] : List G.Sp1) ++ ([⟨"filed", 63, 34, (["manner", "alphabet", "words", "word", "at"] : List PySem.Str), false⟩, ⟨"ordered", 64, 35, (["manner", "alphabet", "words", "found", "word"] : List PySem.Str), false⟩, ⟨"all_looks", 139, 37, (["manner", "some", "other", "at", "one"] : List PySem.Str), false⟩, ⟨"exchanged", 164, 39, (["alphabet", "look", "other", "sign"] : List PySem.Str), false⟩, ⟨"exchanges", 165, 40, (["manner", "alphabet", "words", "due", "look"] : List PySem.Str), false⟩, ⟨"_law_vat", 13, 42, (["_law_script", "_law_k", "_law_cell"] : List PySem.Str), false⟩, ⟨"_law_under", 14, 43, (["_law_vat_here", "_law_many", "_law_wide", "_law_found"] : List PySem.Str), false⟩, ⟨"_law_some", 15, 44, (["_law_vat_here", "_law_things"] : List PySem.Str), false⟩, ⟨"_law_signs", 21, 45, (["_law_manner_here"] : List PySem.Str), false⟩, ⟨"_law_alphabets", 22, 46, (["_law_manner_here", "_law_rows", "_law_some_here", "_law_turn", "_law_longer", "_law_row", "_law_sign"] : List PySem.Str), false⟩, ⟨"_law_read", 23, 47, (["_law_manner_here", "_law_word_here"] : List PySem.Str), false⟩, ⟨"_law_key", 66, 48, (["_law_manner_here", "_law_alphabet", "_law_word_here", "_law_row", "_law_first_so", "_law_sign"] : List PySem.Str), false⟩, ⟨"_law_ahead", 67, 49, (["_law_manner_here", "_law_alphabet", "_law_one", "_law_other"] : List PySem.Str), false⟩, ⟨"_law_sorted", 68, 50, (["_law_manner_here", "_law_alphabet", "_law_words_here", "_law_left", "_law_found", "_law_best", "_law_word_here"] : List PySem.Str), false⟩, ⟨"_law_manner", 24, 51, (["_law_vat_here", "_law_many", "_law_letters", "_law_pairs"] : List PySem.Str), false⟩] : List G.Sp1) ++ ([⟨"_law_word", 25, 52, (["_law_vat_here", "_law_manner_here", "_law_most", "_law_word_here", "_law_turn"] : List PySem.Str), false⟩, ⟨"_law_words", 48, 53, (["_law_vat_here", "_law_manner_here", "_law_many", "_law_found", "_law_turn", "_law_word_here", "_law_near"] : List PySem.Str), false⟩, ⟨"_law_looks", 142, 54, (["_law_manner_here", "_law_at", "_law_some_here", "_law_found", "_law_other"] : List PySem.Str), false⟩, ⟨"law", 166, 57, (["_law_script", "_law_k", "_law_found", "_law_paired", "_law_vat_here", "_law_manner_here", "_law_turn", "_law_plain", "_law_row", "_law_due", "_law_look", "_law_alphabet", "_law_words_here", "_law_other", "_law_one"] : List PySem.Str) ++ (["_law_two"] : List PySem.Str), true⟩] : List G.Sp1)
def xs : List PySem.Str := (["InvalidManner", "InvalidAlphabet", "InvalidWord", "InvalidWords", "InvalidFacts", "InvalidScript", "InvalidPlan", "InvalidPlace", "InvalidText", "Impossible", "Unlike", "NothingToUndo", "TooMany"] : List PySem.Str)
def cl : List PySem.Str := (["InvalidManner", "InvalidAlphabet", "InvalidWord", "InvalidWords", "InvalidFacts", "InvalidScript", "InvalidPlan", "InvalidPlace", "InvalidText", "Impossible", "Unlike", "NothingToUndo", "TooMany", "ValueError"] : List PySem.Str)
def lw : G.Lw := ⟨mo, specs, G.M.P, ["_law_vat"], "_law_error", 56, (["_law_call", "_law_e"] : List PySem.Str), 55, (["_law_e", "_law_some_here", "_law_labels", "_law_word_here", "_law_good"] : List PySem.Str), xs⟩
abbrev R : PySem.W.OpenRow := PySem.W.OpenLaw.row PySem.Challenge.rw_anyalphabet_k13_signs_that_can_be_exchan
abbrev hk : PySem.W.Hook := He.hookX 4 mo.fa (mo.fn top) [] lw.tf (G.nmT lw.tf xs cl "AlphabetError")
def ob (s : PySem.W.SharedT) : He.AlX := He.obsX 4 mo.fa (mo.fn top) [] lw.tf (G.nmT lw.tf xs cl "AlphabetError") (HandSHeadRun.getT s)
theorem ob_eq (s : PySem.W.SharedT) : ob s = hk.obs s.abs := He.obsX_eq (HandSHeadRun.getT_eq s)
def loose : List PySem.Str := (["is_whole", "is_of", "is_manner", "need_manner", "all_signs", "has_word", "are_words", "need_words", "has_alphabet", "need_alphabet", "row_of", "unlike_place", "without_last", "asked", "is_ahead"] : List PySem.Str) ++ (["filed", "ordered", "all_looks", "exchanged", "exchanges", "_law_vat", "_law_under", "_law_some", "_law_signs", "_law_alphabets", "_law_read", "_law_key", "_law_ahead", "_law_sorted", "_law_manner"] : List PySem.Str) ++ (["_law_word", "_law_words", "_law_looks", "_law_names", "_law_error", "AlphabetError", "InvalidManner", "InvalidAlphabet", "InvalidWord", "InvalidWords", "InvalidFacts", "InvalidScript", "InvalidPlan", "InvalidPlace", "InvalidText"] : List PySem.Str) ++ (["Impossible", "Unlike", "NothingToUndo", "TooMany", "LETTERS", "MOST_SIGNS", "__name__"] : List PySem.Str)
theorem runH (w : World) : HandSHeadRun.RunEq R (PySem.W.view R.prog [57]) hk ob 20000 loose w := by
  intro os
  kernel_rfl
def lsp : G.Sp1 := ⟨"law", 166, 57, (["_law_script", "_law_k", "_law_found", "_law_paired", "_law_vat_here", "_law_manner_here", "_law_turn", "_law_plain", "_law_row", "_law_due", "_law_look", "_law_alphabet", "_law_words_here", "_law_other", "_law_one"] : List PySem.Str) ++ (["_law_two"] : List PySem.Str), true⟩
def nmb : Option G.NmD := G.nmBody (defScope (top 55)) (["_law_e", "_law_some_here", "_law_labels", "_law_word_here", "_law_good"] : List PySem.Str) "_law_e" (defBody (top 55))
theorem nm_some : nmb.isSome = true := by decide +kernel
def nd : G.NmD := nmb.get nm_some
def agOf (i : Nat) : Arg := (defArgs (top i)).args.headD default
def erb : Option G.ErD := G.erBody (defScope (top 56)) (["_law_call", "_law_e"] : List PySem.Str) (defBody (top 56))
theorem er_some : erb.isSome = true := by decide +kernel
def ed : G.ErD := erb.get er_some
theorem nm1 : defArgs (top 55) = ⟨[], [agOf 55], none, [], [], none, []⟩ := by kernel_rfl
theorem nm2 : FnScope lw.nN [(agOf 55).arg] (defScope (top 55)) := ⟨by kernel_rfl, by kernel_rfl, by kernel_rfl, by decide +kernel, by kernel_rfl, by decide +kernel, by decide +kernel⟩
theorem nm3 : G.nmBody (defScope (top 55)) lw.nN (agOf 55).arg (defBody (top 55)) = some nd := (Option.some_get nm_some).symm
theorem nm4 : lw.nN[0]? = some (agOf 55).arg := by kernel_rfl
theorem nm5 : nd.cls = cl := by kernel_rfl
theorem nm6 (ad : Nat) (S : G.Store) (c : Nat) (hc : c < 13) : G.nmR ad (G.flagsOf xs cl c) nd (some (.exn ad) :: List.replicate (lw.nN.length - 1) none) S = .rt (.str (G.excWord c)) S := by
    rw [G.nmR_eq]
    match c, hc with
    | 0, _ => kernel_rfl
    | 1, _ => kernel_rfl
    | 2, _ => kernel_rfl
    | 3, _ => kernel_rfl
    | 4, _ => kernel_rfl
    | 5, _ => kernel_rfl
    | 6, _ => kernel_rfl
    | 7, _ => kernel_rfl
    | 8, _ => kernel_rfl
    | 9, _ => kernel_rfl
    | 10, _ => kernel_rfl
    | 11, _ => kernel_rfl
    | 12, _ => kernel_rfl
    | n + 13, h => exact absurd h (by omega)
theorem nmOk : G.NmOk lw top "_law_names" "AlphabetError" cl where
  df := by decide +kernel
  sh := ⟨agOf 55, nd, nm1, nm2, nm3, by decide +kernel, nm4, nm5, fun c hc ad S => nm6 ad S c hc⟩
  ca := by decide +kernel
  b1 := by decide +kernel
  b2 := by decide +kernel
  xl := by decide +kernel
  own := by decide +kernel
  ve := by decide +kernel
  nve := fun y hy => by
    have z : (mo.excs ++ mo.more).all (fun y => decide (y ≠ ("ValueError" : Str))) = true := by decide +kernel
    exact of_decide_eq_true (List.all_eq_true.mp z y (List.mem_append.mpr hy))
theorem lwOk : G.LwOk lw top "_law_names" "AlphabetError" cl where
  cp := by decide +kernel
  df := by decide +kernel
  cst := by decide +kernel
  xs := fun i x h => by
    have hi : i < mo.excs.length := (List.getElem?_eq_some_iff.mp h).1
    have z : (List.range mo.excs.length).all (fun i => decide (mo.excs[i]? = xs[i]?)) = true := by decide +kernel
    have e := of_decide_eq_true (List.all_eq_true.mp z i (List.mem_range.mpr hi))
    exact e.symm.trans h
  nm := nmOk
  er := ⟨agOf 56, ed, by kernel_rfl, ⟨by kernel_rfl, by kernel_rfl, by kernel_rfl, by decide +kernel, by kernel_rfl, by decide +kernel, by decide +kernel⟩, (Option.some_get er_some).symm, by kernel_rfl, by kernel_rfl, by kernel_rfl⟩
  tn := by decide +kernel
end K13
open PySem PySem.W PySem.Calls PyProof.Rows
set_option maxHeartbeats 0 in
theorem PySem.Challenge.cw_anyalphabet_k13_signs_that_can_be_exchan_holds : PySem.Challenge.rw_anyalphabet_k13_signs_that_can_be_exchan.Holds := by
  w_on; o_law
  refine HandSHeadRun.head_any (r := K13.R) (q := view K13.R.prog [57]) (H := K13.hk) (ob := K13.ob) (M := 20000) (loose := K13.loose) (d := HandSHeadRun.topDef K13.R.prog 57) (kwd := []) K13.ob_eq
    (by kernel_rfl) (fun s => by kernel_rfl) K13.runH (by kernel_rfl) (by kernel_rfl) (by kernel_rfl) (by rfl) (by first | assumption | decide +kernel) (by decide +kernel) ⟨rfl, rfl, rfl, rfl, rfl, by decide +kernel⟩ ?hw ?hc
  case hw => w_witness2
  case hc =>
    refine LamX.walk_ofTsE (l := PySem.Challenge.rw_anyalphabet_k13_signs_that_can_be_exchan) (n := 63) (k := 30 + 2) (x := "_law_script") (CX := fun w => L2N.CX (PySem.Challenge.rw_anyalphabet_k13_signs_that_can_be_exchan).prog w) rfl (by decide) (by kernel_rfl) ⟨rfl, by decide, by decide⟩ ?F (fun w H s e s' z => by obtain ⟨_, _, _, _, _, _, _, _, _, _, _, _, z⟩ := z; exact z)
    intro w mg fa h Y N hmg0
    obtain ⟨K, KX, c⟩ := Y
    have hmg : mg ("law" : PySem.Str) = some (.ref fa) := by
      have e : (HandSHeadRun.topDef K13.R.prog 57).name = ("law" : PySem.Str) := by kernel_rfl
      rw [← e]
      exact hmg0
    exact ⟨K, KX, G.law_of (s := K13.lsp) (fi := G.M.f166) (n := 63) (mm := 30) K13.lwOk c KX N hmg (List.mem_of_getElem? (i := 33) (by kernel_rfl)) G.M.l166 (by kernel_rfl) (by kernel_rfl) ⟨[K13.agOf 57], by kernel_rfl⟩ (fun ns h1 h2 => (fun (ns : List Int) (_ : ns.length ≤ 63) (_ : ∀ z ∈ ns, Builtin.Int.intBits z ≤ 1048576) => G.K.maths13 ns) ns h1 h2)⟩

