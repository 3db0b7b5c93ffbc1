import PyProof.Rows.All
import Wide.All
import OpenK.AllK
import Wide.FinOn
import PySem.Challenge.RW_pq1086_01
set_option Elab.async false
set_option maxRecDepth 100000
set_option linter.all false

namespace Sw
open PySem PyProof.Rows

/-- a value as plain data; tuples as trees, mutable objects by number -/
inductive V where
  | none
  | bool (b : Bool)
  | int (i : Int)
  | str (s : Str)
  | tup (vs : List V)
  | ref (k : Nat)

/-- a mutable object -/
inductive SO where
  | list (vs : List V)
  | dict (kvs : List (V × V))
  | inst (C : Addr) (attrs : List (Str × V))

abbrev SH := List SO
inductive Fl where
  | next | brk | cont
  | ret (v : V)

structure Loc where
  sc : Scope
  vs : List (Str × V)

noncomputable def Loc.get (ρ : Loc) (x : Str) : Option V := ρ.vs.lookup x
noncomputable def putA (x : Str) (v : V) : List (Str × V) → List (Str × V)
  | [] => [(x, v)]
  | p :: r => if p.1 == x then (x, v) :: r else p :: putA x v r
noncomputable def Loc.set (ρ : Loc) (x : Str) (v : V) : Loc := ⟨ρ.sc, putA x v ρ.vs⟩

mutual
noncomputable def V.beq : V → V → Bool
  | .none, b => match b with
    | .none => true
    | _ => false
  | .bool a, b => match b with
    | .bool b => a == b
    | _ => false
  | .int a, b => match b with
    | .int b => decide (a = b)
    | _ => false
  | .str a, b => match b with
    | .str b => decide (a = b)
    | _ => false
  | .tup xs, b => match b with
    | .tup ys => V.beqs xs ys
    | _ => false
  | .ref a, b => match b with
    | .ref b => a == b
    | _ => false
noncomputable def V.beqs : List V → List V → Bool
  | [], ys => match ys with
    | [] => true
    | _ :: _ => false
  | x :: xs, ys => match ys with
    | y :: ys => V.beq x y && V.beqs xs ys
    | [] => false
end
theorem no_bool {p : Prop} (h : false = true) : p := Bool.noConfusion h
theorem no_none {α : Type} {x : α} {p : Prop} (h : none = some x) : p := nomatch h
mutual
theorem V.beq_to : ∀ a b : V, V.beq a b = true → a = b
  | .none, b, h => by cases b with
    | none => rfl
    | _ => exact no_bool h
  | .bool a, b, h => by cases b with
    | bool b => exact congrArg V.bool (eq_of_beq h)
    | _ => exact no_bool h
  | .int a, b, h => by cases b with
    | int b => exact congrArg V.int (of_decide_eq_true h)
    | _ => exact no_bool h
  | .str a, b, h => by cases b with
    | str b => exact congrArg V.str (of_decide_eq_true h)
    | _ => exact no_bool h
  | .tup a, b, h => by cases b with
    | tup b => exact congrArg V.tup (V.beqs_to a b h)
    | _ => exact no_bool h
  | .ref a, b, h => by cases b with
    | ref b => exact congrArg V.ref (eq_of_beq h)
    | _ => exact no_bool h
theorem V.beqs_to : ∀ a b : List V, V.beqs a b = true → a = b
  | [], b, h => by cases b with
    | nil => rfl
    | cons y ys => exact no_bool h
  | x :: xs, b, h => by cases b with
    | nil => exact no_bool h
    | cons y ys =>
      have h : (V.beq x y && V.beqs xs ys) = true := h
      have h := Bool.and_eq_true_iff.mp h
      rw [V.beq_to x y h.1, V.beqs_to xs ys h.2]
end
mutual
theorem V.beq_self : ∀ a : V, V.beq a a = true
  | .none => rfl
  | .bool a => beq_self_eq_true a
  | .int _ => decide_eq_true rfl
  | .str _ => decide_eq_true rfl
  | .tup a => V.beqs_self a
  | .ref a => beq_self_eq_true a
theorem V.beqs_self : ∀ a : List V, V.beqs a a = true
  | [] => rfl
  | x :: xs => Bool.and_eq_true_iff.mpr ⟨V.beq_self x, V.beqs_self xs⟩
end
theorem V.beq_iff (a b : V) : V.beq a b = true ↔ a = b := ⟨V.beq_to a b, fun h => h ▸ V.beq_self a⟩
theorem V.beqs_iff (a b : List V) : V.beqs a b = true ↔ a = b := ⟨V.beqs_to a b, fun h => h ▸ V.beqs_self a⟩

/-- which kind of a tree -/
noncomputable def kd (e : Expr) (k : Nat) : Bool := Nat.beq e.ctorIdx k
theorem kd_eq {e : Expr} {k : Nat} (h : kd e k = true) : e.ctorIdx = k := Nat.eq_of_beq_eq_true h
theorem cond_is {α : Type} {b : Bool} {a : Option α} {x : α} (h : cond b a none = some x) : b = true ∧ a = some x := by
  cases b with
  | true => exact ⟨rfl, h⟩
  | false => exact no_none h
noncomputable def nmE0 (e : Expr) : Option Str := match e with
  | .Name x _ => some x
  | _ => none
noncomputable def nmE (e : Expr) : Option Str := cond (kd e 23) (nmE0 e) none
theorem nmE_is {e : Expr} {x : Str} (h : nmE e = some x) : ∃ p, e = .Name x p :=
  Expr.Name.elim (motive_1 := fun e => nmE0 e = some x → ∃ p, e = .Name x p) e (kd_eq (cond_is h).1) (fun _ p h => ⟨p, congrArg (Expr.Name · p) (Option.some.inj h)⟩) (cond_is h).2
noncomputable def one {α : Type} (l : List α) : Option α := match l with
  | [] => none
  | a :: r => match r with
    | [] => some a
    | _ :: _ => none
theorem one_is {α : Type} {l : List α} {a : α} (h : one l = some a) : l = [a] := by
  cases l with
  | nil => exact no_none h
  | cons b r => cases r with
    | nil => cases h; rfl
    | cons _ _ => exact no_none h
noncomputable def isComp (e : Expr) : Bool := kd e 8 || kd e 9 || kd e 10
noncomputable def isAttr (e : Expr) : Bool := kd e 20
noncomputable def isTup (e : Expr) : Bool := kd e 25
noncomputable def notSet (e : Expr) : Bool := !kd e 7
noncomputable def isCall (e : Expr) : Bool := kd e 16
noncomputable def notCall (e : Expr) : Bool := !kd e 16
noncomputable def isSlice (e : Expr) : Bool := kd e 26

/- the pure data that a value stands for, in a shadow heap; lists one deep -/
mutual
noncomputable def V.py : V → Option PyData
  | .none => some .none
  | .bool b => some (.bool b)
  | .int i => some (.int i)
  | .str s => some (.str s)
  | .tup vs => (V.pys vs).map .tuple
  | .ref _ => Option.none
noncomputable def V.pys : List V → Option (List PyData)
  | [] => some []
  | v :: r => match V.py v, V.pys r with
    | some d, some ds => some (d :: ds)
    | _, _ => Option.none
end
noncomputable def pyOf (σ : SH) (v : V) : Option PyData := match v with
  | .ref k => match σ[k]? with
    | some (.list vs) => (V.pys vs).map .list
    | _ => none
  | v => v.py

/-- the sorts of keys: 1 ints, 2 strs, 3 tuples of ints, 4 pairs of an int and a tuple of ints -/
noncomputable def isInt : V → Bool
  | .int _ => true
  | _ => false
noncomputable def pairSort : List V → Nat
  | [.int _, .tup ws] => if ws.all isInt then 4 else 0
  | _ => 0
noncomputable def keySort : V → Nat
  | .int _ => 1
  | .str _ => 2
  | .tup vs => if vs.all isInt then 3 else pairSort vs
  | _ => 0
noncomputable def KeyFits (k : V) (kvs : List (V × V)) : Prop := keySort k ≠ 0 ∧ ∀ p ∈ kvs, keySort p.1 = keySort k

noncomputable def look (k : V) : List (V × V) → Option V
  | [] => none
  | p :: r => if V.beq p.1 k then some p.2 else look k r
noncomputable def putD (k v : V) : List (V × V) → List (V × V)
  | [] => [(k, v)]
  | p :: r => if V.beq p.1 k then (p.1, v) :: r else p :: putD k v r
noncomputable def delD (k : V) : List (V × V) → List (V × V)
  | [] => []
  | p :: r => if V.beq p.1 k then r else p :: delD k r

abbrev KE := V → SH → Prop
abbrev KS := Fl → Loc → SH → Prop

noncomputable def ifB (b : Bool) (p q : Prop) : Prop := match b with
  | true => p
  | false => q
theorem ifB_true (p q : Prop) : ifB true p q = p := rfl
theorem ifB_false (p q : Prop) : ifB false p q = q := rfl
theorem ifB_of {b : Bool} {p q : Prop} (h1 : b = true → p) (h2 : b = false → q) : ifB b p q := by
  cases b
  · exact h2 rfl
  · exact h1 rfl

/-- callable names of the module: the room that a call asks, what it does; and the module's constants -/
structure Tab where
  fn : Str → Option (Nat × (List V → SH → KE → Prop))
  const : Str → Option Int

/-- a place that fits a machine word -/
noncomputable def fit64 (j : Int) : Bool := match j with
  | .ofNat n => Nat.blt n 9223372036854775808
  | .negSucc n => Nat.blt n 9223372036854775808
theorem fit64_ok {j : Int} (h : fit64 j = true) : -(2 ^ 63) ≤ j ∧ j < 2 ^ 63 := by
  cases j with
  | ofNat n => have : n < 9223372036854775808 := Nat.le_of_ble_eq_true h; exact ⟨by show _ ≤ (n : Int); omega, by show (n : Int) < _; omega⟩
  | negSucc n => have : n < 9223372036854775808 := Nat.le_of_ble_eq_true h; constructor <;> omega
theorem fit64_of {j : Int} (h0 : 0 ≤ j) (h1 : j < 9223372036854775808) : fit64 j = true := by
  obtain ⟨n, rfl⟩ := Int.eq_ofNat_of_zero_le h0
  exact Nat.ble_eq_true_of_le (show n + 1 ≤ 9223372036854775808 by omega)
/-- a condition that computing decides, as a rule: where it is met nothing is left of it -/
noncomputable def ck (c : Prop) [i : Decidable c] (P : Prop) : Prop := @Decidable.rec c (fun _ => Prop) (fun _ => False) (fun _ => P) i
theorem ck.and {c P : Prop} [i : Decidable c] (h : ck c P) : c ∧ P := by
  unfold ck at h
  cases i with
  | isTrue hc => exact ⟨hc, h⟩
  | isFalse _ => exact h.elim
theorem ck_of {c P : Prop} [i : Decidable c] (hc : c) (h : P) : ck c P := by
  unfold ck
  cases i with
  | isTrue _ => exact h
  | isFalse n => exact n hc

/-- data that may be compared: plain data, two deep -/
noncomputable def okS (x : Str) : Bool := x.cps.toList.all fun c => Nat.ble c 1114111
noncomputable def sh1 (d : PyData) : Bool := match d with
  | .none => true
  | .bool _ => true
  | .int _ => true
  | .str x => okS x
  | _ => false
noncomputable def sh2 (d : PyData) : Bool := match d with
  | .tuple xs => xs.all sh1
  | .list xs => xs.all sh1
  | d => sh1 d
noncomputable def sh3 (d : PyData) : Bool := match d with
  | .tuple xs => xs.all sh2
  | .list xs => xs.all sh2
  | d => sh1 d
theorem okS_ok {x : Str} (h : okS x = true) : PyData.strOk x = true := by
  unfold PyData.strOk
  rw [← Array.all_toList]
  unfold okS at h
  rw [List.all_eq_true] at h ⊢
  intro c hc
  have := Nat.le_of_ble_eq_true (h c hc)
  exact decide_eq_true (by omega)
theorem sh1_ok {d : PyData} (h : sh1 d = true) : d.canLay0 = true ∧ d.depth = 0 := by
  cases d with
  | str x => exact ⟨by simp only [PyData.canLay0]; exact okS_ok h, by simp only [PyData.depth]⟩
  | none => exact ⟨by simp only [PyData.canLay0], by simp only [PyData.depth]⟩
  | bool b => exact ⟨by simp only [PyData.canLay0], by simp only [PyData.depth]⟩
  | int i => exact ⟨by simp only [PyData.canLay0], by simp only [PyData.depth]⟩
  | _ => cases h
theorem sh_all {f : PyData → Bool} {n : Nat} (hf : ∀ d, f d = true → d.canLay0 = true ∧ d.depth ≤ n) : ∀ {xs : List PyData}, xs.all f = true → PyData.canLayAll0 xs = true ∧ PyData.depthAll xs ≤ n
  | [], _ => ⟨by simp only [PyData.canLayAll0], by simp only [PyData.depthAll]; exact Nat.zero_le _⟩
  | x :: xs, h => by
    rw [List.all_cons, Bool.and_eq_true] at h
    have h1 := hf x h.1
    have h2 := sh_all hf h.2
    exact ⟨by simp only [PyData.canLayAll0, h1.1, h2.1, Bool.and_self], by simp only [PyData.depthAll]; exact Nat.max_le.mpr ⟨h1.2, h2.2⟩⟩
theorem sh2_ok {d : PyData} (h : sh2 d = true) : d.canLay0 = true ∧ d.depth ≤ 1 := by
  have g : ∀ d, sh1 d = true → d.canLay0 = true ∧ d.depth ≤ 0 := fun d h => ⟨(sh1_ok h).1, Nat.le_of_eq (sh1_ok h).2⟩
  have e1 : ∀ {d : PyData}, sh1 d = true → d.canLay0 = true ∧ d.depth ≤ 1 := fun h => ⟨(sh1_ok h).1, by rw [(sh1_ok h).2]; decide⟩
  cases d with
  | tuple xs => exact ⟨by simp only [PyData.canLay0]; exact (sh_all g h).1, by simp only [PyData.depth]; exact Nat.succ_le_succ (sh_all g h).2⟩
  | list xs => exact ⟨by simp only [PyData.canLay0]; exact (sh_all g h).1, by simp only [PyData.depth]; exact Nat.succ_le_succ (sh_all g h).2⟩
  | dict kvs => cases h
  | _ => exact e1 h
theorem sh3_ok {d : PyData} (h : sh3 d = true) : SeqAt.shaped d = true := by
  have e1 : ∀ {d : PyData}, sh1 d = true → d.canLay0 = true ∧ d.depth ≤ 2 := fun h => ⟨(sh1_ok h).1, by rw [(sh1_ok h).2]; decide⟩
  have : d.canLay0 = true ∧ d.depth ≤ 2 := by
    cases d with
    | tuple xs => exact ⟨by simp only [PyData.canLay0]; exact (sh_all (fun _ => sh2_ok) h).1, by simp only [PyData.depth]; exact Nat.succ_le_succ (sh_all (fun _ => sh2_ok) h).2⟩
    | list xs => exact ⟨by simp only [PyData.canLay0]; exact (sh_all (fun _ => sh2_ok) h).1, by simp only [PyData.depth]; exact Nat.succ_le_succ (sh_all (fun _ => sh2_ok) h).2⟩
    | dict kvs => cases h
    | _ => exact e1 h
  unfold SeqAt.shaped
  rw [this.1, Bool.true_and]
  exact decide_eq_true (Nat.le_trans this.2 (by decide))

/-- of what is there -/
noncomputable def oP {α : Type} (o : Option α) (P : α → Prop) : Prop := match o with
  | some a => P a
  | none => False
theorem oP_is {α : Type} {o : Option α} {P : α → Prop} (h : oP o P) : ∃ a, o = some a ∧ P a := by
  cases o with
  | none => exact h.elim
  | some a => exact ⟨a, rfl, h⟩
theorem oP_of {α : Type} {o : Option α} {a : α} {P : α → Prop} (h : o = some a) (hP : P a) : oP o P := by
  cases h
  exact hP
noncomputable def oneP {α : Type} (l : List α) (P : α → Prop) : Prop := oP (one l) P
theorem one_prop {α : Type} {l : List α} {P : α → Prop} (h : oneP l P) : ∃ t, l = [t] ∧ P t := by
  obtain ⟨t, e, h⟩ := oP_is h
  exact ⟨t, one_is e, h⟩
noncomputable def isLoc (ρ : Loc) (x : Str) : Bool := ρ.sc.names.lookup x == some .local || ρ.sc.names.lookup x == some .cell
noncomputable def isGlo (ρ : Loc) (x : Str) : Bool := ρ.sc.names.lookup x == some .globalImplicit

noncomputable def truth : V → Option Bool
  | .bool b => some b
  | .int i => some (i != 0)
  | _ => none
noncomputable def truthW (v : V) (K : Bool → Prop) : Prop := oP (truth v) K

noncomputable def ii (a b : V) (f : Int → Int → Prop) : Prop := match a with
  | .int i => match b with
    | .int j => f i j
    | _ => False
  | _ => False
noncomputable def addO (a b : SO) (σ : SH) (K : KE) : Prop := match a with
  | .list xs => match b with
    | .list ys => xs.length + ys.length ≤ 1000 ∧ K (.ref σ.length) (σ ++ [.list (xs ++ ys)])
    | _ => False
  | _ => False
noncomputable def addW (a b : V) (σ : SH) (K : KE) : Prop := match a with
  | .int i => match b with
    | .int j => K (.int (i + j)) σ
    | _ => False
  | .tup xs => match b with
    | .tup ys => ck (xs.length + ys.length ≤ 1000) (K (.tup (xs ++ ys)) σ)
    | _ => False
  | .ref x => match b with
    | .ref y => oP σ[x]? fun a => oP σ[y]? fun b => addO a b σ K
    | _ => False
  | _ => False
noncomputable def binW (op : Operator) (a b : V) (σ : SH) (K : KE) : Prop := match op with
  | .Add => addW a b σ K
  | .Sub => ii a b fun i j => K (.int (i - j)) σ
  | .Mult => ii a b fun i j => (i.natAbs < 2 ^ 64 ∨ j.natAbs < 2 ^ 64) ∧ K (.int (i * j)) σ
  | .FloorDiv => ii a b fun i j => (j ≠ 0 ∧ j.natAbs < 2 ^ 60) ∧ K (.int (i.fdiv j)) σ
  | .Mod => ii a b fun i j => j ≠ 0 ∧ K (.int (i.fmod j)) σ
  | .Pow => ii a b fun i j => (i.natAbs < 2 ^ 60 ∧ 0 ≤ j ∧ j ≤ 1000) ∧ K (.int (i ^ j.toNat)) σ
  | .BitAnd => ii a b fun i j => K (.int (Builtin.bitAnd i j)) σ
  | .BitOr => ii a b fun i j => K (.int (Builtin.bitOr i j)) σ
  | .BitXor => ii a b fun i j => K (.int (Builtin.bitXor i j)) σ
  | .RShift => ii a b fun i j => 0 ≤ j ∧ K (.int (i.fdiv (2 ^ j.toNat))) σ
  | _ => False

noncomputable def isNoneV : V → Bool
  | .none => true
  | _ => false
noncomputable def inO (a : V) (o : SO) (K : Bool → Prop) : Prop := match o with
  | .dict kvs => KeyFits a kvs ∧ K (look a kvs).isSome
  | _ => False
noncomputable def cmpW (op : CmpOp) (a b : V) (σ : SH) (K : Bool → Prop) : Prop := match op with
  | .Lt => ii a b fun i j => K (decide (i < j))
  | .LtE => ii a b fun i j => K (decide (i ≤ j))
  | .Gt => ii a b fun i j => K (decide (i > j))
  | .GtE => ii a b fun i j => K (decide (i ≥ j))
  | .Eq => oP (pyOf σ a) fun d => oP (pyOf σ b) fun e => ck (sh3 d = true ∧ sh3 e = true) (K (PyData.eqv d e))
  | .NotEq => oP (pyOf σ a) fun d => oP (pyOf σ b) fun e => ck (sh3 d = true ∧ sh3 e = true) (K (!PyData.eqv d e))
  | .Is => match b with
    | .none => K (isNoneV a)
    | _ => False
  | .IsNot => match b with
    | .none => K (!isNoneV a)
    | _ => False
  | .In => match b with
    | .tup ys => oP (V.py a) fun d => oP (V.pys ys) fun es => ck (sh3 d = true ∧ sh3 (.tuple es) = true) (K (es.any fun e => PyData.eqv e d))
    | .ref k => oP σ[k]? fun o => inO a o K
    | _ => False
  | .NotIn => match b with
    | .tup ys => oP (V.py a) fun d => oP (V.pys ys) fun es => ck (sh3 d = true ∧ sh3 (.tuple es) = true) (K (!es.any fun e => PyData.eqv e d))
    | _ => False

noncomputable def idxW (vs : List V) (i : V) (σ : SH) (K : KE) : Prop := match i with
  | .int j => ck (fit64 j = true) (oP (seqIndex? j vs.length) fun n => oP vs[n]? fun v => K v σ)
  | _ => False
noncomputable def getO (o : SO) (i : V) (σ : SH) (K : KE) : Prop := match o with
  | .list vs => idxW vs i σ K
  | .dict kvs => KeyFits i kvs ∧ oP (look i kvs) fun v => K v σ
  | _ => False
noncomputable def getI (o i : V) (σ : SH) (K : KE) : Prop := match o with
  | .tup vs => idxW vs i σ K
  | .ref k => oP σ[k]? fun o => getO o i σ K
  | _ => False

noncomputable def setO (k : Nat) (o : SO) (i v : V) (σ : SH) (K : SH → Prop) : Prop := match o with
  | .dict kvs => (KeyFits i kvs ∧ kvs.length ≤ 1000) ∧ K (σ.set k (.dict (putD i v kvs)))
  | .list vs => match i with
    | .int j => (0 ≤ j ∧ j < vs.length ∧ vs.length ≤ 1000) ∧ K (σ.set k (.list (vs.set j.toNat v)))
    | _ => False
  | _ => False
noncomputable def setI (o i v : V) (σ : SH) (K : SH → Prop) : Prop := match o with
  | .ref k => oP σ[k]? fun o => setO k o i v σ K
  | _ => False
noncomputable def delO (k : Nat) (o : SO) (i : V) (σ : SH) (K : SH → Prop) : Prop := match o with
  | .dict kvs => (KeyFits i kvs ∧ (look i kvs).isSome = true ∧ kvs.length ≤ 1000) ∧ K (σ.set k (.dict (delD i kvs)))
  | _ => False
noncomputable def delI (o i : V) (σ : SH) (K : SH → Prop) : Prop := match o with
  | .ref k => oP σ[k]? fun o => delO k o i σ K
  | _ => False
noncomputable def getAO (o : SO) (a : Str) (σ : SH) (K : KE) : Prop := match o with
  | .inst _ as => oP (as.lookup a) fun v => K v σ
  | _ => False
noncomputable def getA (o : V) (a : Str) (σ : SH) (K : KE) : Prop := match o with
  | .ref k => oP σ[k]? fun o => getAO o a σ K
  | _ => False

/-- the classes that are known, and the names that may be stored into their instances -/
noncomputable def clsNames : List Str := ["number", "original", "reply", "zone", "until", "since", "mark", "status", "state", "sides", "master", "most", "seed", "tries", "table", "talks", "last", "trackers", "expects", "flows", "is_loose"]
noncomputable def setAO (k : Nat) (o : SO) (a : Str) (v : V) (σ : SH) (K : SH → Prop) : Prop := match o with
  | .inst C as => ck (clsNames.contains a = true) (K (σ.set k (.inst C (putA a v as))))
  | _ => False
noncomputable def setA (o : V) (a : Str) (v : V) (σ : SH) (K : SH → Prop) : Prop := match o with
  | .ref k => oP σ[k]? fun o => setAO k o a v σ K
  | _ => False

structure Rec where
  e : Expr → Loc → SH → KE → Prop
  t : Expr → Loc → SH → (Bool → SH → Prop) → Prop
  s : Stmt → Loc → SH → KS → Prop

noncomputable def evsN : Loc → SH → (List V → SH → Prop) → Prop := fun _ σ K => K [] σ
noncomputable def evsC (r : Rec) (e : Expr) (_ : List Expr) (k : Loc → SH → (List V → SH → Prop) → Prop) : Loc → SH → (List V → SH → Prop) → Prop := fun ρ σ K => ck (kd e 22 = false) (r.e e ρ σ fun v σ1 => k ρ σ1 fun vs σ2 => K (v :: vs) σ2)
noncomputable def evs (r : Rec) (b : List Expr) : Loc → SH → (List V → SH → Prop) → Prop := List.rec (motive := fun _ => Loc → SH → (List V → SH → Prop) → Prop) evsN (evsC r) b

noncomputable def boolWC (r : Rec) (op : BoolOp) (e : Expr) (es : List Expr) (k : Loc → SH → KE → Prop) : Loc → SH → KE → Prop := fun ρ σ K => match es with
  | [] => r.e e ρ σ K
  | _ :: _ => r.e e ρ σ fun v σ1 => truthW v fun b => match op with
    | .And => ifB b (k ρ σ1 K) (K v σ1)
    | .Or => ifB b (K v σ1) (k ρ σ1 K)
noncomputable def boolW (r : Rec) (op : BoolOp) (b : List Expr) : Loc → SH → KE → Prop := List.rec (motive := fun _ => Loc → SH → KE → Prop) (fun _ _ _ => False) (boolWC r op) b
noncomputable def boolTC (r : Rec) (op : BoolOp) (e : Expr) (_ : List Expr) (k : Loc → SH → (Bool → SH → Prop) → Prop) : Loc → SH → (Bool → SH → Prop) → Prop := fun ρ σ K => r.t e ρ σ fun b σ1 => match op with
  | .And => ifB b (k ρ σ1 K) (K false σ1)
  | .Or => ifB b (K true σ1) (k ρ σ1 K)
noncomputable def boolT (r : Rec) (op : BoolOp) (b : List Expr) : Loc → SH → (Bool → SH → Prop) → Prop := List.rec (motive := fun _ => Loc → SH → (Bool → SH → Prop) → Prop) (fun _ σ K => match op with
  | .And => K true σ
  | .Or => K false σ) (boolTC r op) b

noncomputable def chainW (r : Rec) : List CmpOp → V → List Expr → Loc → SH → (Bool → SH → Prop) → Prop
  | [op], a, [e], ρ, σ, K => ck (behindInMarks op e = false) (r.e e ρ σ fun b σ1 => cmpW op a b σ1 fun c => K c σ1)
  | op :: op' :: ops, a, e :: e' :: es, ρ, σ, K => r.e e ρ σ fun b σ1 => cmpW op a b σ1 fun c => ifB c (chainW r (op' :: ops) b (e' :: es) ρ σ1 K) (K false σ1)
  | _, _, _, _, _, _ => False

noncomputable def sorted2 (ns ns' : List Int) : Prop := ns'.Perm ns ∧ ns'.Pairwise (· ≤ ·)
noncomputable def intsOf : List V → Option (List Int)
  | [] => some []
  | .int i :: r => (intsOf r).map (i :: ·)
  | _ :: _ => none

noncomputable def lenO (o : SO) (σ : SH) (K : KE) : Prop := match o with
  | .list xs => xs.length ≤ 1000 ∧ K (.int xs.length) σ
  | .dict kvs => kvs.length ≤ 1000 ∧ K (.int kvs.length) σ
  | _ => False
noncomputable def lenW (v : V) (σ : SH) (K : KE) : Prop := match v with
  | .tup xs => xs.length ≤ 1000 ∧ K (.int xs.length) σ
  | .ref k => oP σ[k]? fun o => lenO o σ K
  | _ => False
noncomputable def sumO (o : SO) (σ : SH) (K : KE) : Prop := match o with
  | .list xs => oP (intsOf xs) fun ns => K (.int ns.sum) σ
  | _ => False
noncomputable def sumW (v : V) (σ : SH) (K : KE) : Prop := match v with
  | .ref k => oP σ[k]? fun o => sumO o σ K
  | _ => False
noncomputable def srtI (xs : List V) (σ : SH) (K : KE) : Prop := oP (intsOf xs) fun ns => ns.length < 64 ∧ ∀ ns', sorted2 ns ns' → K (.ref σ.length) (σ ++ [.list (ns'.map .int)])
noncomputable def srtO (o : SO) (σ : SH) (K : KE) : Prop := match o with
  | .list xs => srtI xs σ K
  | .dict kvs => srtI (kvs.map (·.1)) σ K
  | _ => False
noncomputable def srtW (v : V) (σ : SH) (K : KE) : Prop := match v with
  | .tup xs => srtI xs σ K
  | .ref k => oP σ[k]? fun o => srtO o σ K
  | _ => False
noncomputable def lstO (o : SO) (σ : SH) (K : KE) : Prop := match o with
  | .dict kvs => match kvs with
    | [] => K (.ref σ.length) (σ ++ [.list []])
    | _ :: _ => False
  | _ => False
noncomputable def lstW (v : V) (σ : SH) (K : KE) : Prop := match v with
  | .ref k => oP σ[k]? fun o => lstO o σ K
  | _ => False
noncomputable def two (vs : List V) (P : V → V → Prop) : Prop := match vs with
  | [] => False
  | a :: r => oneP r fun b => P a b
/-- what a built-in of this name does with these arguments -/
noncomputable def biW (f : Str) (vs : List V) (σ : SH) (K : KE) : Prop :=
  if f = ("len" : Str) then oneP vs fun v => lenW v σ K
  else if f = ("min" : Str) then two vs fun a b => ii a b fun i j => K (.int (if j < i then j else i)) σ
  else if f = ("max" : Str) then two vs fun a b => ii a b fun i j => K (.int (if j > i then j else i)) σ
  else if f = ("sum" : Str) then oneP vs fun v => sumW v σ K
  else if f = ("sorted" : Str) then oneP vs fun v => srtW v σ K
  else if f = ("list" : Str) then oneP vs fun v => lstW v σ K
  else False

/-- a method of a list or of a dict: which it is, told where the object is met -/
inductive Mt where
  | append | pop | get
noncomputable def mtO (o : SO) (m : Str) : Option Mt := match o with
  | .list _ => if m = ("append" : Str) then some .append else if m = ("pop" : Str) then some .pop else none
  | .dict _ => if m = ("get" : Str) then some .get else none
  | _ => none
noncomputable def appO (k : Nat) (o : SO) (vs : List V) (σ : SH) (K : KE) : Prop := match o with
  | .list xs => oneP vs fun v => xs.length ≤ 1000 ∧ K .none (σ.set k (.list (xs ++ [v])))
  | _ => False
noncomputable def popL (k : Nat) (xs : List V) (v : V) (σ : SH) (K : KE) : Prop := match v with
  | .int i => match xs with
    | x :: r => ck (i = 0) ((x :: r).length ≤ 1000 ∧ K x (σ.set k (.list r)))
    | [] => False
  | _ => False
noncomputable def popO (k : Nat) (o : SO) (vs : List V) (σ : SH) (K : KE) : Prop := match o with
  | .list xs => oneP vs fun v => popL k xs v σ K
  | _ => False
noncomputable def dgO (o : SO) (vs : List V) (σ : SH) (K : KE) : Prop := match o with
  | .dict kvs => match vs with
    | [] => False
    | j :: r => match r with
      | [] => KeyFits j kvs ∧ K ((look j kvs).getD .none) σ
      | d :: r => match r with
        | [] => KeyFits j kvs ∧ K ((look j kvs).getD d) σ
        | _ :: _ => False
  | _ => False
noncomputable def methO (i : Mt) (k : Nat) (o : SO) (vs : List V) (σ : SH) (K : KE) : Prop := match i with
  | .append => appO k o vs σ K
  | .pop => popO k o vs σ K
  | .get => dgO o vs σ K
noncomputable def methW (i : Mt) (o : V) (vs : List V) (σ : SH) (K : KE) : Prop := match o with
  | .ref k => oP σ[k]? fun o => methO i k o vs σ K
  | _ => False

noncomputable def slicePart (r : Rec) : Option Expr → Loc → SH → (Option Int → SH → Prop) → Prop
  | none, _, σ, K => K none σ
  | some e, ρ, σ, K => r.e e ρ σ fun v σ1 => match v with
    | .int i => K (some i) σ1
    | _ => False

/-- a slice from a place to another, both within; of a tuple a tuple, of a list a new list -/
noncomputable def slcT (vs : List V) (lo hi : Option Int) (P : List V → Prop) : Prop := match lo with
  | none => match hi with
    | some b => ck (1 ≤ b ∧ b < vs.length ∧ vs.length ≤ 1000) (P (vs.take b.toNat))
    | none => False
  | some a => match hi with
    | none => ck (1 ≤ a ∧ a ≤ vs.length ∧ vs.length ≤ 1000) (P (vs.drop a.toNat))
    | some _ => False
noncomputable def sliceW (o : V) (lo hi : Option Int) (σ : SH) (K : KE) : Prop := match o with
  | .tup vs => slcT vs lo hi fun us => K (.tup us) σ
  | _ => False

/-- every fourth of a list of ints: some list of ints -/
noncomputable def stepO (o : SO) (j : Int) (σ : SH) (K : KE) : Prop := match o with
  | .list vs => oP (intsOf vs) fun ns => (0 ≤ j ∧ j < 4 ∧ ns.length ≤ 1000) ∧ ∀ ns' : List Int, K (.ref σ.length) (σ ++ [.list (ns'.map .int)])
  | _ => False
noncomputable def stepW (o l : V) (σ : SH) (K : KE) : Prop := match o with
  | .ref k => match l with
    | .int j => oP σ[k]? fun o => stepO o j σ K
    | _ => False
  | _ => False

noncomputable def frees (sc : Scope) : List (Str × NameKind) := sc.names.filter fun y => y.2 == .free
noncomputable def capture (ρ : Loc) (fs : List (Str × NameKind)) : Option (List (Str × V)) := match fs with
  | [] => some []
  | [(n, _)] => match ρ.get n with
    | some v => if ρ.sc.names.lookup n == some .cell then some [(n, v)] else none
    | none => none
  | _ => none
/-- the comprehension's own scope as the model lays it -/
noncomputable def inComp (sc : Scope) : Scope := { sc with names := sc.names.map fun (n, k) => if k == .free then (n, .cell) else (n, k) }

noncomputable def noStar : List Expr → Bool
  | [] => true
  | e :: es => cond (kd e 22) false (noStar es)
inductive Src where
  | fixed (vs : List V)
  | list (k : Nat) (vs : List V)
  | enum (k : Nat) (vs : List V)
noncomputable def pairRow : Nat → List V → List V
  | _, [] => []
  | n, v :: r => .tup [.int n, v] :: pairRow (n + 1) r
noncomputable def Src.still : Src → SH → Prop
  | .fixed _, _ => True
  | .list k vs, σ => σ[k]? = some (.list vs)
  | .enum k vs, σ => σ[k]? = some (.list vs)
noncomputable def Src.items : Src → List V
  | .fixed vs => vs
  | .list _ vs => vs
  | .enum _ vs => pairRow 0 vs
noncomputable def Src.okT : Src → Expr → Prop
  | .enum _ _, t => isTup t = true
  | _, _ => True
noncomputable def srcO (k : Nat) (o : SO) (K : Src → Prop) : Prop := match o with
  | .list vs => K (.list k vs)
  | _ => False
noncomputable def srcOf (v : V) (σ : SH) (K : Src → Prop) : Prop := match v with
  | .tup vs => K (.fixed vs)
  | .ref k => oP σ[k]? fun o => srcO k o K
  | _ => False
noncomputable def intRow : Nat → List V
  | 0 => []
  | n + 1 => intRow n ++ [.int n]
/-- what a for loop, or a comprehension, goes over -/
noncomputable def callO0 (e : Expr) : Option (Str × Expr) := match e with
  | .Call f as ks _ => match ks with
    | [] => match nmE f with
      | some x => (one as).map fun a => (x, a)
      | none => none
    | _ :: _ => none
  | _ => none
/-- a call of a name with one argument -/
noncomputable def callO (e : Expr) : Option (Str × Expr) := cond (kd e 16) (callO0 e) none
theorem callO_is {e : Expr} {f : Str} {a : Expr} (h : callO e = some (f, a)) : ∃ p q, e = .Call (.Name f p) [a] [] q :=
  Expr.Call.elim (motive_1 := fun e => callO0 e = some (f, a) → ∃ p q, e = .Call (.Name f p) [a] [] q) e (kd_eq (cond_is h).1) (fun g as ks q h => by
    cases ks with
    | cons _ _ => exact no_none h
    | nil =>
      have h : (match nmE g with
        | some x => (one as).map fun a => (x, a)
        | none => none) = some (f, a) := h
      revert h
      cases hg : nmE g with
      | none => exact no_none
      | some x =>
        intro h
        obtain ⟨p, rfl⟩ := nmE_is hg
        obtain ⟨b, hb, e⟩ := Option.map_eq_some_iff.mp h
        cases e
        rw [one_is hb]
        exact ⟨p, q, rfl⟩) (cond_is h).2
noncomputable def enumO (k : Nat) (o : SO) (σ : SH) (K : Src → SH → Prop) : Prop := match o with
  | .list vs => K (.enum k vs) σ
  | _ => False
noncomputable def rangeW (v : V) (σ : SH) (K : Src → SH → Prop) : Prop := match v with
  | .int n => (0 ≤ n ∧ n ≤ 1000) ∧ K (.fixed (intRow n.toNat)) σ
  | _ => False
noncomputable def enumW (v : V) (σ : SH) (K : Src → SH → Prop) : Prop := match v with
  | .ref k => oP σ[k]? fun o => enumO k o σ K
  | _ => False
noncomputable def callOW (r : Rec) (e : Expr) (f : Str) (a : Expr) (ρ : Loc) (σ : SH) (K : Src → SH → Prop) : Prop :=
    if f = ("range" : Str) then (isGlo ρ f = true ∧ noStar [a] = true) ∧ r.e a ρ σ fun v σ1 => rangeW v σ1 K
    else if f = ("enumerate" : Str) then (isGlo ρ f = true ∧ noStar [a] = true) ∧ r.e a ρ σ fun v σ1 => enumW v σ1 K
    else r.e e ρ σ fun v σ1 => srcOf v σ1 fun S => K S σ1
noncomputable def srcW (r : Rec) (e : Expr) (ρ : Loc) (σ : SH) (K : Src → SH → Prop) : Prop := match callO e with
  | some p => callOW r e p.1 p.2 ρ σ K
  | none => notSet e = true ∧ r.e e ρ σ fun v σ1 => srcOf v σ1 fun S => K S σ1

noncomputable def testsW (r : Rec) : List Expr → Loc → SH → (Bool → SH → Prop) → Prop
  | [], _, σ, K => K true σ
  | [e], ρ, σ, K => r.t e ρ σ K
  | _, _, _, _ => False
/-- a comprehension's turns -/
noncomputable def compW (r : Rec) (elt : Expr) (x : Str) (ifs : List Expr) (still : SH → Prop) : List V → Loc → SH → (List V → SH → Prop) → Prop
  | [], _, σ, K => still σ ∧ K [] σ
  | v :: rest, ρ, σ, K => still σ ∧ testsW r ifs (ρ.set x v) σ fun b σ1 => ifB b
      (r.e elt (ρ.set x v) σ1 fun y σ2 => compW r elt x ifs still rest (ρ.set x v) σ2 fun ys σ3 => K (y :: ys) σ3)
      (compW r elt x ifs still rest (ρ.set x v) σ1 K)

noncomputable def pairsC (r : Rec) (ko : Option Expr) (_ : List (Option Expr)) (f : List Expr → Loc → SH → (List (V × V) → SH → Prop) → Prop) : List Expr → Loc → SH → (List (V × V) → SH → Prop) → Prop := fun vs ρ σ K => match ko with
  | some k => match vs with
    | v :: vs => r.e k ρ σ fun kv σ1 => r.e v ρ σ1 fun vv σ2 => f vs ρ σ2 fun ps σ3 => K ((kv, vv) :: ps) σ3
    | [] => False
  | none => False
noncomputable def pairsN : List Expr → Loc → SH → (List (V × V) → SH → Prop) → Prop := fun vs _ σ K => match vs with
  | [] => K [] σ
  | _ :: _ => False
noncomputable def pairsW (r : Rec) (ks : List (Option Expr)) : List Expr → Loc → SH → (List (V × V) → SH → Prop) → Prop :=
  List.rec (motive := fun _ => List Expr → Loc → SH → (List (V × V) → SH → Prop) → Prop) pairsN (pairsC r) ks
noncomputable def dictOfPairs : List (V × V) → List (V × V) → List (V × V)
  | kvs, [] => kvs
  | kvs, p :: ps => dictOfPairs (putD p.1 p.2 kvs) ps
noncomputable def sameSort : List (V × V) → Prop
  | [] => True
  | p :: ps => KeyFits p.1 ps

noncomputable def isBuiltin (f : Str) : Bool := (["len", "min", "max", "sum", "sorted", "list"] : List Str).contains f

noncomputable def compOk (sc : Scope) (x : Str) : Bool := sc.kind == .function && sc.names.lookup x == some .local && sc.names.all fun y => y.2 != .cell && sc.names.lookup y.1 == some y.2
/-- one layer of an expression at a time -/
noncomputable def conE0 (e : Expr) : Option Const := match e with
  | .Constant c _ _ => some c
  | _ => none
noncomputable def conE (e : Expr) : Option Const := cond (kd e 19) (conE0 e) none
theorem conE_is {e : Expr} {c : Const} (h : conE e = some c) : ∃ k p, e = .Constant c k p :=
  Expr.Constant.elim (motive_1 := fun e => conE0 e = some c → ∃ k p, e = .Constant c k p) e (kd_eq (cond_is h).1) (fun _ k p h => ⟨k, p, congrArg (Expr.Constant · k p) (Option.some.inj h)⟩) (cond_is h).2
noncomputable def intC (c : Const) : Option Int := match c with
  | .int i => some i
  | _ => none
theorem intC_is {c : Const} {i : Int} (h : intC c = some i) : c = .int i := by
  cases c with
  | int j => exact congrArg Const.int (Option.some.inj h)
  | _ => exact no_none h
noncomputable def intE (e : Expr) : Option Int := match conE e with
  | some c => intC c
  | none => none
theorem intE_is {e : Expr} {i : Int} (h : intE e = some i) : ∃ k p, e = .Constant (.int i) k p := by
  unfold intE at h
  revert h
  cases q : conE e with
  | none => exact no_none
  | some c =>
    intro h
    obtain ⟨k, p, rfl⟩ := conE_is q
    exact ⟨k, p, congrArg (Expr.Constant · k p) (intC_is h)⟩
noncomputable def sub00 (e : Expr) : Option Str := match e with
  | .Subscript a b _ => cond (intE b == some 0) (nmE a) none
  | _ => none
noncomputable def sub0 (e : Expr) : Option Str := cond (kd e 21) (sub00 e) none
theorem sub0_is {e : Expr} {x : Str} (h : sub0 e = some x) : ∃ p1 k p2 p3, e = .Subscript (.Name x p1) (.Constant (.int 0) k p2) p3 :=
  Expr.Subscript.elim (motive_1 := fun e => sub00 e = some x → ∃ p1 k p2 p3, e = .Subscript (.Name x p1) (.Constant (.int 0) k p2) p3) e (kd_eq (cond_is h).1) (fun a b p3 h => by
    obtain ⟨h1, h2⟩ := cond_is h
    obtain ⟨k, p2, rfl⟩ := intE_is (eq_of_beq h1)
    obtain ⟨p1, rfl⟩ := nmE_is h2
    exact ⟨p1, k, p2, p3, rfl⟩) (cond_is h).2
noncomputable def gtC (op : CmpOp) : Bool := match op with
  | .Gt => true
  | _ => false
noncomputable def gt00 (e : Expr) : Option Str := match e with
  | .Compare a ops es _ => cond (((one ops).any gtC) && ((one es).any fun e => intE e == some 0)) (sub0 a) none
  | _ => none
noncomputable def gt0 (e : Expr) : Option Str := cond (kd e 15) (gt00 e) none
noncomputable def valA0 (e : Expr) (l : Nat) : Option Expr := match e with
  | .Attribute o m ap => cond (m == ("values" : Str) && ap.endLine == l && notCall o) (some o) none
  | _ => none
noncomputable def valA (e : Expr) (l : Nat) : Option Expr := cond (kd e 20) (valA0 e l) none
noncomputable def valE0 (e : Expr) : Option Expr := match e with
  | .Call f as ks p => cond (as.isEmpty && ks.isEmpty) (valA f p.line) none
  | _ => none
noncomputable def valE (e : Expr) : Option Expr := cond (kd e 16) (valE0 e) none
/-- the list of the heads of a dict's values, of those above zero: the object whose values they are -/
noncomputable def valsOne (elt : Expr) (g : Comprehension) (t : Expr) (sc : Scope) : Option Expr := match sub0 elt with
  | some x => cond (nmE g.target == some x && gt0 t == some x && g.is_async == 0 && compOk sc x && sc.names.all (fun y => y.2 != .free) && x != ("__debug__" : Str)) (valE g.iter) none
  | none => none
noncomputable def valsComp (elt : Expr) (gens : List Comprehension) (sc : Scope) : Option Expr := match one gens with
  | some g => match one g.ifs with
    | some t => valsOne elt g t sc
    | none => none
  | none => none
noncomputable def headL : List V → Option Int
  | [] => none
  | v :: r => match v with
    | .int i => if r.length < 1000 then some i else none
    | _ => none
noncomputable def headO : SO → Option Int
  | .list vs => headL vs
  | _ => none
noncomputable def headOf (σ : SH) : V → Option Int
  | .ref j => (σ[j]?).bind headO
  | _ => none
noncomputable def headsOf (σ : SH) : List (V × V) → Option (List Int)
  | [] => some []
  | p :: r => (headOf σ p.2).bind fun i => (headsOf σ r).map fun is => i :: is
noncomputable def headsO (o : SO) (σ : SH) (K : KE) : Prop := match o with
  | .dict kvs => oP (headsOf σ kvs) fun is => kvs.length ≤ 1000 ∧ K (.ref σ.length) (σ ++ [.list ((is.filter fun i => decide (i > 0)).map .int)])
  | _ => False
noncomputable def headsW (v : V) (σ : SH) (K : KE) : Prop := match v with
  | .ref k => oP σ[k]? fun o => headsO o σ K
  | _ => False

noncomputable def slcE0 (e : Expr) : Option (Option Expr × Option Expr × Option Expr) := match e with
  | .Slice lo hi st _ => some (lo, hi, st)
  | _ => none
noncomputable def slcE (e : Expr) : Option (Option Expr × Option Expr × Option Expr) := cond (isSlice e) (slcE0 e) none
theorem slcE_is {e : Expr} {p : Option Expr × Option Expr × Option Expr} (h : slcE e = some p) : ∃ q, e = .Slice p.1 p.2.1 p.2.2 q :=
  Expr.Slice.elim (motive_1 := fun e => slcE0 e = some p → ∃ q, e = .Slice p.1 p.2.1 p.2.2 q) e (kd_eq (cond_is h).1) (fun _ _ _ q h => by cases h; exact ⟨q, rfl⟩) (cond_is h).2
/-- a slice of steps of four, or without a step -/
noncomputable def slcW (r : Rec) (a : Expr) (lo hi st : Option Expr) (ρ : Loc) (σ : SH) (K : KE) : Prop := match st with
  | none => r.e a ρ σ fun x σ1 => slicePart r lo ρ σ1 fun l σ2 => slicePart r hi ρ σ2 fun h σ3 => sliceW x l h σ3 K
  | some c => match lo with
    | some lo => match hi with
      | none => ck (intE c = some 4) (r.e a ρ σ fun x σ1 => r.e lo ρ σ1 fun l σ2 => stepW x l σ2 K)
      | some _ => False
    | none => False
noncomputable def callN (T : Tab) (n : Nat) (r : Rec) (f : Str) (args : List Expr) (ρ : Loc) (σ : SH) (K : KE) : Prop := match isBuiltin f with
  | true => evs r args ρ σ fun vs σ1 => biW f vs σ1 K
  | false => oP (T.fn f) fun p => ck (p.1 ≤ n) (evs r args ρ σ fun vs σ1 => p.2 vs σ1 K)
noncomputable def callM (r : Rec) (m : Str) (args : List Expr) (ρ : Loc) (x : V) (σ1 : SH) (K : KE) : Prop := match x with
  | .ref k => oP σ1[k]? fun o => oP (mtO o m) fun i => evs r args ρ σ1 fun vs σ2 => methW i (.ref k) vs σ2 K
  | _ => False
noncomputable def callW (T : Tab) (n : Nat) (r : Rec) (f : Expr) (args : List Expr) (p : Pos) (ρ : Loc) (σ : SH) (K : KE) : Prop := match f with
  | .Name f _ => ck (isGlo ρ f = true ∧ noStar args = true ∧ args.length ≤ 20) (callN T n r f args ρ σ K)
  | .Attribute o m ap => ck (isCall o = false ∧ (ap.endLine == p.line) = true ∧ noStar args = true ∧ args.length ≤ 20) (r.e o ρ σ fun x σ1 => callM r m args ρ x σ1 K)
  | _ => False
noncomputable def genW (r : Rec) (elt : Expr) (g : Comprehension) (sc : Scope) (ρ : Loc) (σ : SH) (K : KE) : Prop := oP (nmE g.target) fun x => oP (capture ρ (frees sc)) fun cs =>
  ck (g.is_async = 0) (compOk sc x = true ∧ srcW r g.iter ρ σ fun S σ1 => (S.okT (.Name x default) ∧ S.items.length ≤ 1000) ∧ compW r elt x g.ifs S.still S.items ⟨inComp sc, cs⟩ σ1 fun vs σ2 => K (.ref σ2.length) (σ2 ++ [.list vs]))

noncomputable def stepE (T : Tab) (n : Nat) (r : Rec) (e : Expr) (ρ : Loc) (σ : SH) (K : KE) : Prop := match e with
  | .Constant c _ _ => match c with
    | .none => K .none σ
    | .bool b => K (.bool b) σ
    | .int i => K (.int i) σ
    | .str s => K (.str s) σ
    | _ => False
  | .Name x _ => ck ((x == ("__debug__" : Str)) = false) (match ρ.get x with
    | some v => K v σ
    | none => match T.const x with
      | some i => ck (isGlo ρ x = true) (K (.int i) σ)
      | none => False)
  | .BoolOp op es _ => boolW r op es ρ σ K
  | .BinOp a op b _ => r.e a ρ σ fun x σ1 => r.e b ρ σ1 fun y σ2 => binW op x y σ2 K
  | .UnaryOp op a _ => r.e a ρ σ fun x σ1 => match op, x with
    | .USub, .int i => K (.int (-i)) σ1
    | .Not, x => truthW x fun b => K (.bool (!b)) σ1
    | _, _ => False
  | .IfExp t a b _ => r.t t ρ σ fun c σ1 => ifB c (r.e a ρ σ1 K) (r.e b ρ σ1 K)
  | .Tuple es _ _ => ck (es.length ≤ 1000) (evs r es ρ σ fun vs σ1 => K (.tup vs) σ1)
  | .List es _ => ck (es.length ≤ 1000) (evs r es ρ σ fun vs σ1 => K (.ref σ1.length) (σ1 ++ [.list vs]))
  | .Dict ks vs _ => ck (ks.length = vs.length ∧ ks.length ≤ 15 ∧ ks.all (·.isSome) = true) (pairsW r ks vs ρ σ fun ps σ1 => sameSort ps ∧ K (.ref σ1.length) (σ1 ++ [.dict (dictOfPairs [] ps)]))
  | .Compare a ops es _ => r.e a ρ σ fun x σ1 => chainW r ops x es ρ σ1 fun b σ2 => K (.bool b) σ2
  | .Subscript a i _ => match slcE i with
    | some p => slcW r a p.1 p.2.1 p.2.2 ρ σ K
    | none => r.e a ρ σ fun x σ1 => r.e i ρ σ1 fun j σ2 => getI x j σ2 K
  | .Attribute a m _ => ck (isCall a = false) (r.e a ρ σ fun x σ1 => getA x m σ1 K)
  | .Call f args ks p => match ks with
    | [] => callW T n r f args p ρ σ K
    | _ :: _ => False
  | .ListComp elt gens sc _ => match valsComp elt gens sc with
    | some o => r.e o ρ σ fun v σ1 => headsW v σ1 K
    | none => oneP gens fun g => genW r elt g sc ρ σ K
  | _ => False

noncomputable def stepT (r : Rec) (e : Expr) (ρ : Loc) (σ : SH) (K : Bool → SH → Prop) : Prop := match e with
  | .UnaryOp .Not a _ => r.t a ρ σ fun b σ1 => K (!b) σ1
  | .BoolOp op es _ => boolT r op es ρ σ K
  | .IfExp t a b _ => r.t t ρ σ fun c σ1 => ifB c (r.t a ρ σ1 K) (r.t b ρ σ1 K)
  | .Compare a ops es _ => r.e a ρ σ fun x σ1 => chainW r ops x es ρ σ1 K
  | e => r.e e ρ σ fun x σ1 => truthW x fun b => K b σ1

noncomputable def asg1 (r : Rec) (t : Expr) (v : V) (ρ : Loc) (σ : SH) (K : Loc → SH → Prop) : Prop := match t with
  | .Name x _ => ck (isLoc ρ x = true) (K (ρ.set x v) σ)
  | .Attribute o a _ => r.e o ρ σ fun ov σ1 => setA ov a v σ1 fun σ2 => K ρ σ2
  | .Subscript o i _ => ck (isSlice i = false) (r.e o ρ σ fun ov σ1 => r.e i ρ σ1 fun iv σ2 => setI ov iv v σ2 fun σ3 => K ρ σ3)
  | _ => False
noncomputable def asgsN : List V → Loc → SH → (Loc → SH → Prop) → Prop := fun vs ρ σ K => match vs with
  | [] => K ρ σ
  | _ :: _ => False
noncomputable def asgsC (r : Rec) (t : Expr) (_ : List Expr) (f : List V → Loc → SH → (Loc → SH → Prop) → Prop) : List V → Loc → SH → (Loc → SH → Prop) → Prop := fun vs ρ σ K => match vs with
  | v :: vs => asg1 r t v ρ σ fun ρ1 σ1 => f vs ρ1 σ1 K
  | [] => False
noncomputable def asgs (r : Rec) (ts : List Expr) : List V → Loc → SH → (Loc → SH → Prop) → Prop :=
  List.rec (motive := fun _ => List V → Loc → SH → (Loc → SH → Prop) → Prop) asgsN (asgsC r) ts
noncomputable def tupE0 (e : Expr) : Option (List Expr) := match e with
  | .Tuple es _ _ => some es
  | _ => none
noncomputable def tupE (e : Expr) : Option (List Expr) := cond (isTup e) (tupE0 e) none
theorem tupE_is {e : Expr} {es : List Expr} (h : tupE e = some es) : ∃ k p, e = .Tuple es k p :=
  Expr.Tuple.elim (motive_1 := fun e => tupE0 e = some es → ∃ k p, e = .Tuple es k p) e (kd_eq (cond_is h).1) (fun _ k p h => by cases h; exact ⟨k, p, rfl⟩) (cond_is h).2
noncomputable def asgO (r : Rec) (es : List Expr) (o : SO) (ρ : Loc) (σ : SH) (K : Loc → SH → Prop) : Prop := match o with
  | .list vs => ck (vs.length = es.length ∧ noStar es = true) (asgs r es vs ρ σ K)
  | _ => False
noncomputable def asgV (r : Rec) (es : List Expr) (v : V) (ρ : Loc) (σ : SH) (K : Loc → SH → Prop) : Prop := match v with
  | .tup vs => ck (vs.length = es.length ∧ noStar es = true) (asgs r es vs ρ σ K)
  | .ref k => oP σ[k]? fun o => asgO r es o ρ σ K
  | _ => False
noncomputable def asgW (r : Rec) (t : Expr) (v : V) (ρ : Loc) (σ : SH) (K : Loc → SH → Prop) : Prop := match tupE t with
  | some es => asgV r es v ρ σ K
  | none => asg1 r t v ρ σ K

/-- what comes behind a statement: on, or out -/
noncomputable def seqK (k : Loc → SH → KS → Prop) (K : KS) : KS := fun f ρ σ => match f with
  | .next => k ρ σ K
  | f => K f ρ σ
noncomputable def exsN : Loc → SH → KS → Prop := fun ρ σ K => K .next ρ σ
noncomputable def exsC (r : Rec) (s : Stmt) (_ : List Stmt) (k : Loc → SH → KS → Prop) : Loc → SH → KS → Prop := fun ρ σ K => r.s s ρ σ (seqK k K)
noncomputable def exs (r : Rec) (b : List Stmt) : Loc → SH → KS → Prop := List.rec (motive := fun _ => Loc → SH → KS → Prop) exsN (exsC r) b

/-- what comes behind a turn of a loop -/
noncomputable def loopK (G : Loc → SH → Prop) (K : KS) : KS := fun f ρ σ => match f with
  | .next => G ρ σ
  | .cont => G ρ σ
  | .brk => K .next ρ σ
  | .ret v => K (.ret v) ρ σ
noncomputable def loopW (r : Rec) (t : Expr) (body : List Stmt) (still : SH → Prop) : List V → Loc → SH → KS → Prop
  | [], ρ, σ, K => still σ ∧ K .next ρ σ
  | v :: rest, ρ, σ, K => still σ ∧ asgW r t v ρ σ fun ρ1 σ1 => exs r body ρ1 σ1 (loopK (fun ρ2 σ2 => loopW r t body still rest ρ2 σ2 K) K)

/-- the names whose stores the compiler swaps: none of it | some names | not told -/
noncomputable def swapQ (sc : Scope) (targets : List Expr) (value : Expr) : Option (Option (List Str)) := match targets, value with
  | [.Tuple ts _ _], .Tuple vs _ _ =>
    if !(ts.length == 2 || ts.length == 3) || vs.length != ts.length then some none
    else if vs.any fun | .Starred .. => true | _ => false then some none
    else
      let line := (ts.head?.map (·.pos.line)).getD 0
      let names := ts.filterMap fun
        | .Name id pos => if sc.names.lookup id == some .local && pos.line == line then some id else none
        | _ => none
      if names.length != ts.length || names.eraseDups.length != names.length then some none
      else if vs.all (foldedForSure 8) then some none
      else if vs.all (constantsAlone 8) then none
      else some (some names)
  | [.List _ _], _ => none
  | _, _ => some none

noncomputable def asgNames : List Str → List V → Loc → Option Loc
  | [], [], ρ => some ρ
  | x :: xs, v :: vs, ρ => if isLoc ρ x then asgNames xs vs (ρ.set x v) else none
  | _, _, _ => none

/-- names at the left that the compiler swaps -/
noncomputable def asgTup (names : List Str) (ρ : Loc) (K : KS) (v : V) (σ1 : SH) : Prop := match v with
  | .tup vs => oP (asgNames names.reverse vs.reverse ρ) fun ρ1 => K .next ρ1 σ1
  | _ => False
noncomputable def stAs (r : Rec) (t e : Expr) (ρ : Loc) (σ : SH) (K : KS) : Prop := oP (swapQ ρ.sc [t] e) fun q => match q with
    | some names => r.e e ρ σ fun v σ1 => asgTup names ρ K v σ1
    | none => r.e e ρ σ fun v σ1 => asgW r t v ρ σ1 fun ρ1 σ2 => K .next ρ1 σ2
noncomputable def augI (ρ : Loc) (x : Str) (i : Int) (K : KS) (v : V) (σ1 : SH) : Prop := match v with
  | .int j => ck (isLoc ρ x = true) (K .next (ρ.set x (.int (i + j))) σ1)
  | _ => False
noncomputable def stAug (r : Rec) (x : Str) (e : Expr) (ρ : Loc) (σ : SH) (K : KS) : Prop := oP (ρ.get x) fun v => match v with
    | .int i => r.e e ρ σ fun v σ1 => augI ρ x i K v σ1
    | _ => False
noncomputable def isAdd : Operator → Bool
  | .Add => true
  | _ => false
noncomputable def stDel (r : Rec) (t : Expr) (ρ : Loc) (σ : SH) (K : KS) : Prop := match t with
  | .Subscript o i _ => ck (isSlice i = false) (r.e o ρ σ fun ov σ1 => r.e i ρ σ1 fun iv σ2 => delI ov iv σ2 fun σ3 => K .next ρ σ3)
  | _ => False
noncomputable def stepS (r : Rec) (s : Stmt) (ρ : Loc) (σ : SH) (K : KS) : Prop := match s with
  | .Expr e _ => ck (isComp e = false) (r.e e ρ σ fun _ σ1 => K .next ρ σ1)
  | .Return o _ => match o with
    | some e => r.e e ρ σ fun v σ1 => K (.ret v) ρ σ1
    | none => False
  | .Continue _ => K .cont ρ σ
  | .Assign ts e _ => oneP ts fun t => ck (isComp e = false ∨ isAttr t = true) (stAs r t e ρ σ K)
  | .AugAssign t op e _ => oP (nmE t) fun x => ck (isAdd op = true) (stAug r x e ρ σ K)
  | .If t b o _ => r.t t ρ σ fun c σ1 => ifB c (exs r b ρ σ1 K) (exs r o ρ σ1 K)
  | .For t iter body els _ => match els with
    | [] => srcW r iter ρ σ fun S σ1 => (S.items.length ≤ 1000 ∧ S.okT t) ∧ loopW r t body S.still S.items ρ σ1 K
    | _ :: _ => False
  | .Delete ts _ => oneP ts fun t => stDel r t ρ σ K
  | _ => False

noncomputable def ev (T : Tab) : Nat → Rec
  | 0 => ⟨fun _ _ _ _ => False, fun _ _ _ _ => False, fun _ _ _ _ => False⟩
  | n + 1 => ⟨stepE T n (ev T n), stepT (ev T n), stepS (ev T n)⟩

end Sw

namespace Sw
open PySem

/-! the pair of an int and a tuple of ints as a key -/
section
variable {prog : Program} {w : World}
abbrev K2 := Int × List Int
noncomputable def IsPairKey (prog : Program) (w : World) (h : Heap) (k : K2) (a : Addr) : Prop :=
  ∃ o items n u b, h.get? a = some o ∧ o.cls = .type "tuple" ∧ o.data = .seq items n ∧ items.toList = [.int k.1 u, .ref b] ∧ IsTupleKey (intKind prog w) h k.2 b

theorem IsPairKey.typeIs {s : Shared} {k : K2} {a : Addr} (x : IsPairKey prog w s.heap k a) : s.TypeIs (.ref a) "tuple" := by
  obtain ⟨o, _, _, _, _, ho, hc, _⟩ := x
  exact ⟨o, ho, hc⟩
theorem IsPairKey.inj {h : Heap} {a : Addr} {x y : K2} (hx : IsPairKey prog w h x a) (hy : IsPairKey prog w h y a) : x = y := by
  obtain ⟨o, items, n, u, b, ho, _, hd, hi, hk⟩ := hx
  obtain ⟨o', items', n', u', b', ho', _, hd', hi', hk'⟩ := hy
  obtain rfl : o = o' := Option.some.inj (ho.symm.trans ho')
  rw [hd] at hd'
  injection hd' with h1 _
  subst h1
  rw [hi] at hi'
  injection hi' with e1 e2
  injection e2 with e2 _
  injection e1 with e1 _
  injection e2 with e2
  subst e2
  have := hk.inj hk'
  obtain ⟨x1, x2⟩ := x
  obtain ⟨y1, y2⟩ := y
  simp_all
theorem IsPairKey.keeps {h h' : Heap} {k : K2} {a d : Addr} {o : Obj} {es ep} (x : IsPairKey prog w h k a) (ho : h.get? d = some o) (hd : o.data = .dict es ep) (hs : Heap.SameBut d h h') :
    IsPairKey prog w h' k a := by
  obtain ⟨o', items, n, u, b, ho', hc, hd', hi, hk⟩ := x
  have hne : a ≠ d := by
    rintro rfl
    obtain rfl : o' = o := Option.some.inj (ho'.symm.trans ho)
    rw [hd] at hd'; exact nomatch hd'
  exact ⟨o', items, n, u, b, (hs.2 a hne).trans ho', hc, hd', hi, hk.keeps ho hd hs⟩

noncomputable def pairHash (prog : Program) (w : World) (k : K2) : Int := reduceHash (Builtin.Tuple.tupleHashOf [hashInt k.1, tupleKeyHash (intKind prog w) k.2])

variable {A : Around} {E : Value → Shared → Prop} {s : Shared}
theorem pyHash_pair {k : K2} {a : Addr} {Q : Int → Shared → Prop} (hu : A.units + 1 < cLine) (hk : IsPairKey prog w s.heap k a) (h : Q (pairHash prog w k) { s with toks := s.toks + (k.2.length + 3) }) :
    wpAny (model prog w) A (pyHash (.ref a)) Q E s := by
  have hT := hk.typeIs
  obtain ⟨o, items, n, u, b, ho, _, hd, hi, hb⟩ := hk
  unfold pyHash
  first | unfold pyHashByItsType | skip
  first | refine wpAny_bind (wpAny_cRoomFor_or (.inr (by omega)) ?_) | skip
  refine wpAny_bind (wpAny_specialOf hT F.slot_tuple_hash.lookup ?_)
  show wpAny _ _ (if (some (Value.builtin "tuple.__hash__") == some Value.none) = true then _ else _) Q E s
  rw [if_neg (by rw [beq_builtin_none]; exact Bool.false_ne_true)]
  refine wpAny_bind (wpAny_specialOf hT F.slot_tuple_hash.lookup ?_)
  show wpAny _ _ (callSpecialIfBoundUnlessNone? (.ref a) "__hash__" _ >>= _) Q E s
  refine wpAny_bind (wpAny_callSpecialIfBoundUnlessNone?_slot hT F.slot_tuple_hash (wpAny_call_entry F.slot_tuple_hash hT F.entry_tuple_hash ?_ (F.args_tuple_hash_1 _)))
  show wpAny _ _ (Builtin.Tuple.tupleItemsOf (.ref a) >>= _) _ _ s
  refine wpAny_bind (wpAny_tupleItemsOf ho hd ?_)
  refine wpAny_bind ?_
  rw [← Array.forIn_toList, hi, List.forIn_cons]
  refine wpAny_bind (wpAny_bind ((intKind prog w).pyHash (k := k.1) (v := .int k.1 u) (by show (k.1 == k.1) = true; simp) (wpAny_pure ?_)))
  dsimp only
  rw [List.forIn_cons]
  refine wpAny_bind (wpAny_bind (wpAny_pyHash_tuple (s := { s with toks := s.toks + 1 }) hu hb (wpAny_pure ?_)))
  dsimp only
  rw [List.forIn_nil]
  refine wpAny_pure ?_
  refine wpAny_ret_mkInt ?_
  have e : ((#[].push ((intKind prog w).hash k.1)).push (tupleKeyHash (intKind prog w) k.2)).toList = [hashInt k.1, tupleKeyHash (intKind prog w) k.2] := rfl
  rw [e]
  show wpAny _ _ (if (decide (-(2 : Int) ^ 63 ≤ Builtin.Tuple.tupleHashOf [hashInt k.1, tupleKeyHash (intKind prog w) k.2]) && decide (Builtin.Tuple.tupleHashOf [hashInt k.1, tupleKeyHash (intKind prog w) k.2] < 2 ^ 63)) = true then _ else _) Q E _
  unfold pairHash reduceHash at h
  have ht : s.toks + 1 + (k.2.length + 1) + 1 = s.toks + (k.2.length + 3) := by omega
  by_cases hr : (decide (-(2 : Int) ^ 63 ≤ Builtin.Tuple.tupleHashOf [hashInt k.1, tupleKeyHash (intKind prog w) k.2]) && decide (Builtin.Tuple.tupleHashOf [hashInt k.1, tupleKeyHash (intKind prog w) k.2] < 2 ^ 63)) = true
  · rw [if_pos hr]
    rw [if_pos hr] at h
    exact wpAny_pure (by rw [← ht] at h; exact h)
  · rw [if_neg hr]
    rw [if_neg hr] at h
    exact wpAny_bind (wpAny_rule (wpAny_pure (by rw [← ht] at h; exact h)))

theorem eq_tree_pair {x y : K2} {a b : Addr} {P : Fin → Shared → Prop} (hu : A.units < cLine) (hx : IsPairKey prog w s.heap x a) (hy : IsPairKey prog w s.heap y b) (h : P (.done (.ret (.bool (decide (x = y))))) s) :
    wpAny (model prog w) A (Builtin.«tuple.__eq__» ⟨[.ref a, .ref b], []⟩) P E s := by
  have hTb := hy.typeIs
  obtain ⟨oa, xs, na, u, c, hoa, _, hda, hia, hka⟩ := hx
  obtain ⟨ob, ys, nb, v, d, hob, _, hdb, hib, hkb⟩ := hy
  show wpAny _ _ (isInstance (.ref b) (.type "tuple") >>= _) _ _ s
  refine wpAny_bind (wpAny_isInstance hTb isSubtype_tuple_tuple ?_)
  simp only [Bool.not_true, Bool.false_eq_true, if_false]
  refine wpAny_bind (wpAny_tupleItemsOf hoa hda ?_)
  refine wpAny_bind (wpAny_tupleItemsOf hob hdb ?_)
  have hsz : (xs.size == ys.size) = true := by
    have e1 : xs.size = 2 := by rw [← Array.length_toList, hia]; rfl
    have e2 : ys.size = 2 := by rw [← Array.length_toList, hib]; rfl
    rw [e1, e2]; rfl
  rw [hia, hib]
  refine wpAny_bind ?_
  simp only [List.zip_cons_cons, List.zip_nil_right]
  rw [List.forIn_cons]
  refine wpAny_bind (wpAny_bind ((intKind prog w).eqBool (a := x.1) (b := y.1) (by show (x.1 == x.1) = true; simp) (by show (y.1 == y.1) = true; simp) ?_))
  by_cases h1 : x.1 = y.1
  · rw [decide_eq_true h1]
    simp only [Bool.not_true, Bool.false_eq_true, if_false]
    refine wpAny_pure ?_
    dsimp only
    rw [List.forIn_cons]
    refine wpAny_bind (wpAny_bind (wpAny_eqBool_tuple hu hka hkb ?_))
    by_cases h2 : x.2 = y.2
    · rw [decide_eq_true h2]
      simp only [Bool.not_true, Bool.false_eq_true, if_false]
      refine wpAny_pure ?_
      dsimp only
      rw [List.forIn_nil]
      refine wpAny_pure ?_
      dsimp only
      refine wpAny_pure ?_
      have e : x = y := by obtain ⟨x1, x2⟩ := x; obtain ⟨y1, y2⟩ := y; simp_all
      show P (.done (.ret (.bool (xs.size == ys.size)))) s
      rw [hsz]
      rw [decide_eq_true e] at h
      exact h
    · rw [decide_eq_false h2]
      simp only [Bool.not_false, if_true]
      have e : ¬ x = y := fun e => h2 (by rw [e])
      rw [decide_eq_false e] at h
      exact wpAny_bind (wpAny_pure (wpAny_pure (wpAny_pure (wpAny_pure h))))
  · rw [decide_eq_false h1]
    simp only [Bool.not_false, if_true]
    have e : ¬ x = y := fun e => h1 (by rw [e])
    rw [decide_eq_false e] at h
    exact wpAny_bind (wpAny_pure (wpAny_pure (wpAny_pure (wpAny_pure h))))

theorem eqBool_pair {x y : K2} {a b : Addr} {Q : Bool → Shared → Prop} (hu : A.units + 1 < cLine) (hx : IsPairKey prog w s.heap x a) (hy : IsPairKey prog w s.heap y b) (h : Q (decide (x = y)) s) :
    wpAny (model prog w) A (eqBool (.ref a) (.ref b)) Q E s := by
  unfold eqBool
  try with_reducible refine wpAny_holding ?_
  show wpAny _ _ (if (Value.ref a == Value.ref b) = true then _ else _) Q E s
  by_cases hab : (Value.ref a == Value.ref b) = true
  · rw [if_pos hab]
    have e : a = b := by have := eq_of_beq hab; injection this
    subst e
    obtain rfl := hx.inj hy
    exact wpAny_bind (wpAny_rule (wpAny_pure (by simpa using h)))
  · rw [if_neg hab]
    exact wpAny_bind (wpAny_richCompare_same_room (op := .Eq) hx.typeIs hy.typeIs F.slot_tuple_eq
      (wpAny_call_entry F.slot_tuple_eq hx.typeIs F.entry_tuple_eq (eq_tree_pair hu hx hy ⟨_, rfl, (fun e => nomatch e), wpAny_truthy_bool h⟩) (F.args_tuple_eq_2 _ _)) (by omega))

theorem quiet_pair {k : K2} {a : Addr} {Q : Bool → Shared → Prop} (hk : IsPairKey prog w s.heap k a) (h : Q true s) : wpAny (model prog w) A (eqIsQuiet 8 (.ref a)) Q E s := by
  have hT := hk.typeIs
  obtain ⟨o, items, n, u, b, ho, _, hd, hi, hb⟩ := hk
  have hTb := hb.typeIs
  obtain ⟨ob, itb, nb, hob, _, hdb, hib⟩ := hb
  unfold eqIsQuiet
  refine wpAny_bind (wpAny_specialOf hT F.slot_tuple_eq.lookup ?_)
  show wpAny _ _ (isInstance (.ref a) (.type "tuple") >>= _) _ _ s
  refine wpAny_bind (wpAny_isInstance hT isSubtype_tuple_tuple ?_)
  simp only [Bool.not_true, Bool.false_eq_true, if_false]
  refine wpAny_bind (wpAny_seqItems ho hd ?_)
  refine wpAny_bind ?_
  show wpAny _ _ (forIn items _ _) _ _ s
  rw [← Array.forIn_toList, hi, List.forIn_cons, eqIsQuiet_byValue _ (v := .int k.1 u) rfl]
  refine wpAny_bind (wpAny_bind (wpAny_pure ?_))
  simp only [Bool.not_true, Bool.false_eq_true, if_false]
  refine wpAny_pure ?_
  dsimp only
  rw [List.forIn_cons]
  refine wpAny_bind (wpAny_bind ?_)
  unfold eqIsQuiet
  refine wpAny_bind (wpAny_specialOf hTb F.slot_tuple_eq.lookup ?_)
  show wpAny _ _ (isInstance (.ref b) (.type "tuple") >>= _) _ _ s
  refine wpAny_bind (wpAny_isInstance hTb isSubtype_tuple_tuple ?_)
  simp only [Bool.not_true, Bool.false_eq_true, if_false]
  refine wpAny_bind (wpAny_seqItems hob hdb ?_)
  refine wpAny_bind ?_
  show wpAny _ _ (forIn itb _ _) _ _ s
  rw [← Array.forIn_toList]
  refine wpAny_forIn_list _ (fun rest r s' => r.1 = none ∧ s' = s ∧ ∀ v ∈ rest, carriedByValue v = true) _ ?_ ?_ _ _ ⟨rfl, rfl, hib.byValue⟩
  · rintro v rest r s' ⟨hr, rfl, hall⟩
    rw [eqIsQuiet_byValue _ (hall v List.mem_cons_self)]
    refine wpAny_bind (wpAny_pure ?_)
    simp only [Bool.not_true, Bool.false_eq_true, if_false]
    exact wpAny_pure ⟨rfl, rfl, fun u hu' => hall u (List.mem_cons_of_mem _ hu')⟩
  · rintro ⟨r1, r2⟩ s' ⟨hr, rfl, _⟩
    simp only at hr
    subst hr
    refine wpAny_pure ?_
    simp only [Bool.not_true, Bool.false_eq_true, if_false]
    refine wpAny_pure ?_
    dsimp only
    rw [List.forIn_nil]
    exact wpAny_pure (wpAny_pure h)

noncomputable def pairKind (prog : Program) (w : World) : HeapKind prog w K2 where
  is := IsPairKey prog w
  hash := pairHash prog w
  draws := fun k => k.2.length + 3
  room := fun A => A.units + 1 < cLine
  inj := fun hx hy => hx.inj hy
  keeps := fun x ho hd hs => x.keeps ho hd hs
  pyHash := fun hu hk h => pyHash_pair hu hk h
  eqBool := fun hu hx hy h => eqBool_pair hu hx hy h
  quiet := fun hk h => quiet_pair hk h
end
end Sw

namespace Sw
open PySem

abbrev Mu := List (Addr × Option Addr)
mutual
noncomputable def Rv (μ : Mu) (h : Heap) : V → Value → Prop
  | .none, x => x = .none
  | .bool b, x => x = .bool b
  | .int i, x => ∃ t, x = .int i t
  | .str s, x => ∃ t, x = .str s t
  | .tup vs, x => ∃ a n xs, x = .ref a ∧ h.get? a = some { cls := .type "tuple", data := .seq xs n } ∧ Rvs μ h vs xs.toList
  | .ref k, x => ∃ p, μ[k]? = some p ∧ x = .ref p.1
noncomputable def Rvs (μ : Mu) (h : Heap) : List V → List Value → Prop
  | [], xs => xs = []
  | v :: vs, xs => ∃ y ys, xs = y :: ys ∧ Rv μ h v y ∧ Rvs μ h vs ys
end

structure Up (μ : Mu) (h : Heap) (μ' : Mu) (h' : Heap) : Prop where
  tup : ∀ a xs n, h.get? a = some { cls := .type "tuple", data := .seq xs n } → h'.get? a = some { cls := .type "tuple", data := .seq xs n }
  mu : ∀ (k : Nat) (p : Addr × Option Addr), μ[k]? = some p → μ'[k]? = some p
theorem Up.refl (μ : Mu) (h : Heap) : Up μ h μ h := ⟨fun _ _ _ e => e, fun _ _ e => e⟩
theorem Up.trans {μ h μ' h' μ'' h''} (x : Up μ h μ' h') (y : Up μ' h' μ'' h'') : Up μ h μ'' h'' := ⟨fun a xs n e => y.tup a xs n (x.tup a xs n e), fun k p e => y.mu k p (x.mu k p e)⟩
mutual
theorem Rv.up {μ h μ' h'} (u : Up μ h μ' h') : ∀ {v : V} {x : Value}, Rv μ h v x → Rv μ' h' v x
  | .none, _, r => r
  | .bool _, _, r => r
  | .int _, _, r => r
  | .str _, _, r => r
  | .tup vs, x, r => by
    unfold Rv at r ⊢
    obtain ⟨a, n, xs, e, g, q⟩ := r
    exact ⟨a, n, xs, e, u.tup a xs n g, Rvs.up u q⟩
  | .ref k, x, r => by
    unfold Rv at r ⊢
    obtain ⟨p, e, g⟩ := r
    exact ⟨p, u.mu k p e, g⟩
theorem Rvs.up {μ h μ' h'} (u : Up μ h μ' h') : ∀ {vs : List V} {xs : List Value}, Rvs μ h vs xs → Rvs μ' h' vs xs
  | [], _, r => r
  | v :: vs, xs, r => by
    unfold Rvs at r ⊢
    obtain ⟨y, ys, e, g, q⟩ := r
    exact ⟨y, ys, e, Rv.up u g, Rvs.up u q⟩
end
theorem Rvs.cons {μ h} {v : V} {vs : List V} {x : Value} {xs : List Value} (a : Rv μ h v x) (b : Rvs μ h vs xs) : Rvs μ h (v :: vs) (x :: xs) := by
  unfold Rvs; exact ⟨x, xs, rfl, a, b⟩
theorem Rvs.nil {μ h} : Rvs μ h [] [] := by unfold Rvs; rfl
theorem Rvs.length {μ h} : ∀ {vs : List V} {xs : List Value}, Rvs μ h vs xs → xs.length = vs.length
  | [], _, r => by unfold Rvs at r; subst r; rfl
  | v :: vs, xs, r => by
    unfold Rvs at r
    obtain ⟨y, ys, e, _, q⟩ := r
    subst e
    simp [Rvs.length q]
theorem Rvs.at {μ h} : ∀ {vs : List V} {xs : List Value}, Rvs μ h vs xs → ∀ (i : Nat) (v : V), vs[i]? = some v → ∃ x, xs[i]? = some x ∧ Rv μ h v x
  | [], _, r, i, v, e => by simp at e
  | u :: us, xs, r, i, v, e => by
    unfold Rvs at r
    obtain ⟨y, ys, rfl, g, q⟩ := r
    cases i with
    | zero => simp at e; subst e; exact ⟨y, rfl, g⟩
    | succ i => simpa using Rvs.at q i v (by simpa using e)
theorem Rvs.append {μ h} : ∀ {vs : List V} {xs : List Value} {us : List V} {ys : List Value}, Rvs μ h vs xs → Rvs μ h us ys → Rvs μ h (vs ++ us) (xs ++ ys)
  | [], _, us, ys, r, q => by unfold Rvs at r; subst r; exact q
  | v :: vs, xs, us, ys, r, q => by
    unfold Rvs at r
    obtain ⟨y, zs, rfl, g, r⟩ := r
    exact Rvs.cons g (Rvs.append r q)
theorem Rvs.take {μ h} : ∀ {vs : List V} {xs : List Value}, Rvs μ h vs xs → ∀ n, Rvs μ h (vs.take n) (xs.take n)
  | [], _, r, n => by unfold Rvs at r; subst r; simpa using Rvs.nil
  | v :: vs, xs, r, n => by
    unfold Rvs at r
    obtain ⟨y, zs, rfl, g, r⟩ := r
    cases n with
    | zero => simpa using Rvs.nil
    | succ n => exact Rvs.cons g (Rvs.take r n)
theorem Rvs.drop {μ h} : ∀ {vs : List V} {xs : List Value}, Rvs μ h vs xs → ∀ n, Rvs μ h (vs.drop n) (xs.drop n)
  | [], _, r, n => by unfold Rvs at r; subst r; simpa using Rvs.nil
  | v :: vs, xs, r, n => by
    cases n with
    | zero => exact r
    | succ n =>
      unfold Rvs at r
      obtain ⟨y, zs, rfl, g, r⟩ := r
      exact Rvs.drop r n
theorem Rvs.reverse {μ h} : ∀ {vs : List V} {xs : List Value}, Rvs μ h vs xs → Rvs μ h vs.reverse xs.reverse
  | [], _, r => by unfold Rvs at r; subst r; exact Rvs.nil
  | v :: vs, xs, r => by
    unfold Rvs at r
    obtain ⟨y, zs, rfl, g, r⟩ := r
    rw [List.reverse_cons, List.reverse_cons]
    exact Rvs.append (Rvs.reverse r) (Rvs.cons g Rvs.nil)

section
variable (prog : Program) (w : World)
noncomputable def toI : V → Int
  | .int i => i
  | _ => 0
noncomputable def toS : V → Str
  | .str s => s
  | _ => Str.empty
noncomputable def toL : V → List Int
  | .tup vs => vs.map toI
  | _ => []
noncomputable def toP : V → K2
  | .tup [.int z, .tup ws] => (z, ws.map toI)
  | _ => (0, [])
noncomputable def hashV (v : V) : Int := match keySort v with
  | 1 => hashInt (toI v)
  | 2 => hashStr w (toS v)
  | 3 => tupleKeyHash (intKind prog w) (toL v)
  | 4 => pairHash prog w (toP v)
  | _ => 0

noncomputable def Rk (μ : Mu) (h : Heap) : List (V × V) → List DictEntry → Prop
  | [], es => es = []
  | p :: ps, es => ∃ e r, es = e :: r ∧ (Rv μ h p.1 e.key ∧ Rv μ h p.2 e.val ∧ e.hash = hashV prog w p.1) ∧ Rk μ h ps r
end
section
variable {prog : Program} {w : World} {μ : Mu} {h : Heap}
theorem Rk.up {μ' h'} (u : Up μ h μ' h') : ∀ {kvs : List (V × V)} {es : List DictEntry}, Rk prog w μ h kvs es → Rk prog w μ' h' kvs es
  | [], _, r => r
  | p :: ps, es, r => by
    obtain ⟨e, q, g, ⟨a, b, c⟩, r⟩ := r
    exact ⟨e, q, g, ⟨a.up u, b.up u, c⟩, Rk.up u r⟩
theorem Rk.length : ∀ {kvs : List (V × V)} {es : List DictEntry}, Rk prog w μ h kvs es → es.length = kvs.length
  | [], _, r => by simp [Rk] at r; subst r; rfl
  | p :: ps, es, r => by
    obtain ⟨e, q, rfl, _, r⟩ := r
    simp [r.length]
theorem Rk.at : ∀ {kvs : List (V × V)} {es : List DictEntry}, Rk prog w μ h kvs es → ∀ (i : Nat) (p : V × V), kvs[i]? = some p → ∃ e, es[i]? = some e ∧ Rv μ h p.1 e.key ∧ Rv μ h p.2 e.val ∧ e.hash = hashV prog w p.1
  | [], _, r, i, p, q => by simp at q
  | x :: ps, es, r, i, p, q => by
    obtain ⟨e, t, rfl, c, r⟩ := r
    cases i with
    | zero => simp at q; subst q; exact ⟨e, rfl, c⟩
    | succ i => simpa using r.at i p (by simpa using q)
theorem Rk.of : ∀ {kvs : List (V × V)} {es : List DictEntry}, Rk prog w μ h kvs es → ∀ (i : Nat) (e : DictEntry), es[i]? = some e → ∃ p, kvs[i]? = some p ∧ Rv μ h p.1 e.key ∧ Rv μ h p.2 e.val ∧ e.hash = hashV prog w p.1
  | [], _, r, i, e, q => by simp [Rk] at r; subst r; simp at q
  | x :: ps, es, r, i, e, q => by
    obtain ⟨e', t, rfl, c, r⟩ := r
    cases i with
    | zero => simp at q; subst q; exact ⟨x, rfl, c⟩
    | succ i => simpa using r.of i e (by simpa using q)

noncomputable def idxOf (k : V) : List (V × V) → Option Nat
  | [] => none
  | p :: r => if V.beq p.1 k then some 0 else (idxOf k r).map (· + 1)
theorem idxOf_none {k : V} : ∀ {kvs : List (V × V)}, (∀ p ∈ kvs, p.1 ≠ k) → idxOf k kvs = none
  | [], _ => rfl
  | p :: r, h => by
    have : V.beq p.1 k = false := by
      cases q : V.beq p.1 k with
      | false => rfl
      | true => exact absurd ((V.beq_iff _ _).mp q) (h p (.head _))
    simp [idxOf, this, idxOf_none (fun p hp => h p (.tail _ hp))]
theorem idxOf_some {k : V} : ∀ {kvs : List (V × V)}, (kvs.map (·.1)).Nodup → ∀ {i : Nat} {p : V × V}, kvs[i]? = some p → p.1 = k → idxOf k kvs = some i
  | [], _, i, p, e, _ => by simp at e
  | x :: r, hn, i, p, e, hk => by
    rw [List.map_cons, List.nodup_cons] at hn
    cases i with
    | zero =>
      simp at e; subst e
      simp [idxOf, (V.beq_iff _ _).mpr hk]
    | succ i =>
      have e' : r[i]? = some p := by simpa using e
      have hne : x.1 ≠ k := fun q => hn.1 (by rw [q, ← hk]; exact List.mem_map.mpr ⟨p, List.mem_of_getElem? e', rfl⟩)
      have : V.beq x.1 k = false := by
        cases q : V.beq x.1 k with
        | false => rfl
        | true => exact absurd ((V.beq_iff _ _).mp q) hne
      simp [idxOf, this, idxOf_some hn.2 e' hk]
theorem idxOf_is {k : V} : ∀ {kvs : List (V × V)} {i : Nat}, idxOf k kvs = some i → ∃ v, kvs[i]? = some (k, v)
  | [], i, e => by simp [idxOf] at e
  | x :: r, i, e => by
    unfold idxOf at e
    split at e
    · rename_i q
      cases e
      exact ⟨x.2, by rw [← (V.beq_iff _ _).mp q]; rfl⟩
    · obtain ⟨j, hj, rfl⟩ := Option.map_eq_some_iff.mp e
      obtain ⟨v, hv⟩ := idxOf_is hj
      exact ⟨v, by simpa using hv⟩
theorem look_idx {k : V} : ∀ {kvs : List (V × V)}, look k kvs = (idxOf k kvs).bind fun i => (kvs[i]?).map (·.2)
  | [] => rfl
  | x :: r => by
    unfold look idxOf
    split
    · rfl
    · rw [look_idx (kvs := r)]
      cases idxOf k r <;> simp
theorem putD_idx {k v : V} : ∀ {kvs : List (V × V)}, putD k v kvs = match idxOf k kvs with
    | some i => kvs.modify i fun p => (p.1, v)
    | none => kvs ++ [(k, v)]
  | [] => rfl
  | x :: r => by
    unfold putD idxOf
    split
    · rfl
    · rw [putD_idx (kvs := r)]
      cases idxOf k r <;> simp
theorem delD_idx {k : V} : ∀ {kvs : List (V × V)}, delD k kvs = match idxOf k kvs with
    | some i => kvs.eraseIdx i
    | none => kvs
  | [] => rfl
  | x :: r => by
    unfold delD idxOf
    split
    · rfl
    · rw [delD_idx (kvs := r)]
      cases idxOf k r <;> simp
theorem nodup_put {k v : V} : ∀ {kvs : List (V × V)}, (kvs.map (·.1)).Nodup → ((putD k v kvs).map (·.1)).Nodup ∧ ∀ x ∈ (putD k v kvs).map (·.1), x = k ∨ x ∈ kvs.map (·.1)
  | [], _ => by simp [putD]
  | x :: r, hn => by
    rw [List.map_cons, List.nodup_cons] at hn
    unfold putD
    split
    · rename_i q
      refine ⟨by rw [List.map_cons, List.nodup_cons]; exact hn, fun y hy => ?_⟩
      right; simpa using hy
    · rename_i q
      have z := nodup_put (k := k) (v := v) hn.2
      have hne : x.1 ≠ k := fun e => q ((V.beq_iff _ _).mpr e)
      refine ⟨?_, fun y hy => ?_⟩
      · rw [List.map_cons, List.nodup_cons]
        refine ⟨fun hm => ?_, z.1⟩
        rcases z.2 _ hm with e | e
        · exact hne e
        · exact hn.1 e
      · rw [List.map_cons] at hy
        rcases List.mem_cons.mp hy with e | e
        · right; rw [e]; exact List.mem_cons_self
        · rcases z.2 _ e with e | e
          · left; exact e
          · right; rw [List.map_cons]; exact List.mem_cons_of_mem _ e
theorem delD_sub {k : V} : ∀ {kvs : List (V × V)}, (delD k kvs).Sublist kvs
  | [] => List.Sublist.refl _
  | x :: r => by
    unfold delD
    split
    · exact List.sublist_cons_self ..
    · exact delD_sub.cons_cons x
theorem nodup_del {k : V} {kvs : List (V × V)} (hn : (kvs.map (·.1)).Nodup) : ((delD k kvs).map (·.1)).Nodup := hn.sublist (delD_sub.map _)

/-- a sort of keys that stands in the heap -/
theorem find_heap {A : Around} {E : Value → Shared → Prop} {s : Shared} {K : Type} [DecidableEq K] (knd : HeapKind prog w K) (S : V → Prop) (enc : V → K)
    (hrep : ∀ v x, S v → Rv μ s.heap v x → ∃ a, x = .ref a ∧ knd.is s.heap (enc v) a) (hinj : ∀ u v, S u → S v → enc u = enc v → u = v) (hhash : ∀ v, S v → hashV prog w v = knd.hash (enc v))
    {d : Addr} {o : Obj} {es : Array DictEntry} {ep : Nat} {kvs : List (V × V)} {k : V} {key : Value} {Q : Option Nat → Shared → Prop} (hu : knd.room A)
    (ho : s.heap.get? d = some o) (hd : o.data = .dict es ep) (hr : Rk prog w μ s.heap kvs es.toList) (hn : (kvs.map (·.1)).Nodup) (hk : Rv μ s.heap k key) (hS : S k) (hSs : ∀ p ∈ kvs, S p.1)
    (h : Q (idxOf k kvs) s) : wpAny (model prog w) A (dictFind d key (hashV prog w k)) Q E s := by
  obtain ⟨a, rfl, hka⟩ := hrep k key hS hk
  have build : ∀ (kvs : List (V × V)) (es : List DictEntry), Rk prog w μ s.heap kvs es → (∀ p ∈ kvs, S p.1) →
      ∃ xs : List (K × Addr × Value), es = xs.map (entryOfKey knd) ∧ (∀ x ∈ xs, knd.is s.heap x.1 x.2.1) ∧ xs.map (·.1) = kvs.map fun p => enc p.1 := by
    intro kvs
    induction kvs with
    | nil => intro es r _; simp [Rk] at r; exact ⟨[], by simpa using r, fun _ hx => (nomatch hx), rfl⟩
    | cons p ps ih =>
      intro es r hs
      obtain ⟨e, q, rfl, ⟨a1, a2, a3⟩, r⟩ := r
      obtain ⟨xs, x1, x2, x3⟩ := ih q r fun p hp => hs p (.tail _ hp)
      obtain ⟨b, hb, hib⟩ := hrep _ _ (hs p (.head _)) a1
      refine ⟨(enc p.1, b, e.val) :: xs, ?_, ?_, ?_⟩
      · rw [List.map_cons, ← x1]
        congr 1
        obtain ⟨eh, ek, ev⟩ := e
        dsimp only at hb a3
        unfold entryOfKey
        dsimp only
        rw [hb, a3, hhash _ (hs p (.head _))]
      · intro x hx
        rcases List.mem_cons.mp hx with rfl | hx
        · exact hib
        · exact x2 x hx
      · rw [List.map_cons, List.map_cons, x3]
  obtain ⟨xs, x1, x2, x3⟩ := build kvs es.toList hr hSs
  have hnx : (xs.map (·.1)).Nodup := by
    rw [x3]
    have : kvs.map (fun p => enc p.1) = (kvs.map (·.1)).map enc := by rw [List.map_map]; rfl
    rw [this]
    refine nodup_map_on (fun a ha b hb e => ?_) hn
    obtain ⟨p, hp, rfl⟩ := List.mem_map.mp ha
    obtain ⟨q, hq, rfl⟩ := List.mem_map.mp hb
    exact hinj _ _ (hSs p hp) (hSs q hq) e
  have at_ : ∀ j : Nat, (xs[j]?).map (·.1) = (kvs[j]?).map fun p => enc p.1 := fun j => by
    rw [← List.getElem?_map, x3, List.getElem?_map]
  rw [hhash k hS]
  refine wpAny_dictFind_heap hu hka ho hd x1 x2 hnx (fun hno => ?_) (fun j p hj => ?_)
  · rw [idxOf_none (fun p hp e => ?_)] at h
    · exact h
    · obtain ⟨j, hj⟩ := List.mem_iff_getElem?.mp hp
      have z := at_ j
      rw [hj] at z
      cases q : xs[j]? with
      | none => rw [q] at z; cases z
      | some x =>
        rw [q] at z
        have z' : x.1 = enc p.1 := by simpa using z
        refine hno j x.2 ?_
        rw [q, ← e, ← z']
  · have z := at_ j
    rw [hj] at z
    cases q : kvs[j]? with
    | none => rw [q] at z; cases z
    | some x =>
      rw [q] at z
      have z' : enc k = enc x.1 := by simpa using z
      rw [idxOf_some hn q (hinj _ _ (hSs x (List.mem_of_getElem? q)) hS z'.symm)] at h
      exact h

theorem find_plain {A : Around} {E : Value → Shared → Prop} {s : Shared} {K : Type} [DecidableEq K] (knd : KeyKind prog w K) (S : V → Prop) (enc : V → K)
    (hrep : ∀ v x, S v → Rv μ s.heap v x → knd.is (enc v) x = true) (hinj : ∀ u v, S u → S v → enc u = enc v → u = v) (hhash : ∀ v, S v → hashV prog w v = knd.hash (enc v))
    {d : Addr} {o : Obj} {es : Array DictEntry} {ep : Nat} {kvs : List (V × V)} {k : V} {key : Value} {Q : Option Nat → Shared → Prop}
    (ho : s.heap.get? d = some o) (hd : o.data = .dict es ep) (hr : Rk prog w μ s.heap kvs es.toList) (hk : Rv μ s.heap k key) (hS : S k) (hSs : ∀ p ∈ kvs, S p.1)
    (h : Q (idxOf k kvs) s) : wpAny (model prog w) A (dictFind d key (hashV prog w k)) Q E s := by
  rw [hhash k hS]
  refine wpAny_dictFind_of (hrep k key hS hk) ho hd (fun e he => ?_) ?_
  · obtain ⟨j, hj⟩ := List.mem_iff_getElem?.mp (Array.mem_toList_iff.mpr he)
    obtain ⟨p, hp, a1, _, a3⟩ := hr.of j e hj
    have hSp := hSs p (List.mem_of_getElem? hp)
    exact ⟨enc p.1, hrep _ _ hSp a1, by rw [a3, hhash _ hSp]⟩
  · have key_ : ∀ (kvs : List (V × V)) (es : List DictEntry), Rk prog w μ s.heap kvs es → (∀ p ∈ kvs, S p.1) → es.findIdx? (fun e => knd.is (enc k) e.key) = idxOf k kvs := by
      intro kvs
      induction kvs with
      | nil => intro es r _; simp [Rk] at r; subst r; rfl
      | cons p ps ih =>
        intro es r hs
        obtain ⟨e, q, rfl, ⟨a1, a2, a3⟩, r⟩ := r
        have hp := hs p (.head _)
        rw [List.findIdx?_cons, ih q r fun p hp => hs p (.tail _ hp)]
        have ei : idxOf k (p :: ps) = if V.beq p.1 k then some 0 else (idxOf k ps).map (· + 1) := rfl
        have : knd.is (enc k) e.key = V.beq p.1 k := by
          rw [KeyKind.is_eq_decide (hrep _ _ hp a1) (enc k)]
          cases q : V.beq p.1 k with
          | true => rw [(V.beq_iff _ _).mp q]; simp
          | false =>
            refine decide_eq_false fun e => ?_
            rw [(V.beq_iff _ _).mpr (hinj _ _ hp hS e.symm)] at q
            cases q
        rw [this, ei]
    have : (es.findIdx? fun e => knd.is (enc k) e.key) = idxOf k kvs := by
      rw [← key_ kvs es.toList hr hSs]
      obtain ⟨l⟩ := es
      first | rfl | simp
    rw [this]
    exact h
end
end Sw

namespace Sw
open PySem
section
variable {prog : Program} {w : World} {μ : Mu} {h : Heap}

theorem rv_ints : ∀ {vs : List V} {xs : List Value}, vs.all isInt = true → Rvs μ h vs xs → ItemsAre (intKind prog w) (vs.map toI) xs
  | [], _, _, r => by unfold Rvs at r; subst r; exact .nil
  | v :: vs, xs, ha, r => by
    unfold Rvs at r
    obtain ⟨y, ys, rfl, g, r⟩ := r
    rw [List.all_cons, Bool.and_eq_true] at ha
    refine .cons ?_ (rv_ints ha.2 r)
    cases v with
    | int i =>
      unfold Rv at g
      obtain ⟨t, rfl⟩ := g
      show (i == i) = true
      simp
    | _ => simp [isInt] at ha
theorem isInt_eq {u : V} (h : isInt u = true) : u = .int (toI u) := by
  cases u with
  | int i => rfl
  | _ => cases h
theorem toI_inj : ∀ {us vs : List V}, us.all isInt = true → vs.all isInt = true → us.map toI = vs.map toI → us = vs
  | [], [], _, _, _ => rfl
  | [], _ :: _, _, _, e => nomatch e
  | _ :: _, [], _, _, e => nomatch e
  | u :: us, v :: vs, h1, h2, e => by
    have h1 := Bool.and_eq_true_iff.mp h1
    have h2 := Bool.and_eq_true_iff.mp h2
    obtain ⟨e1, e2⟩ := List.cons.inj e
    rw [toI_inj h1.2 h2.2 e2, isInt_eq h1.1, isInt_eq h2.1, e1]
theorem sort_cases (v : V) : (keySort v = 1 ∧ ∃ i, v = .int i) ∨ (keySort v = 2 ∧ ∃ s, v = .str s) ∨ (keySort v = 3 ∧ ∃ vs, v = .tup vs ∧ vs.all isInt = true) ∨
    (keySort v = 4 ∧ ∃ z ws, v = .tup [.int z, .tup ws] ∧ ws.all isInt = true) ∨ keySort v = 0 := by
  match v with
  | .int i => exact .inl ⟨rfl, i, rfl⟩
  | .str s => exact .inr (.inl ⟨rfl, s, rfl⟩)
  | .none => exact .inr (.inr (.inr (.inr rfl)))
  | .bool _ => exact .inr (.inr (.inr (.inr rfl)))
  | .ref _ => exact .inr (.inr (.inr (.inr rfl)))
  | .tup vs =>
    by_cases q : vs.all isInt = true
    · exact .inr (.inr (.inl ⟨by simp [keySort, q], vs, rfl, q⟩))
    · have e : keySort (.tup vs) = pairSort vs := by rw [keySort, if_neg q]
      rw [e]
      unfold pairSort
      split
      · rename_i z ws
        by_cases q' : ws.all isInt = true
        · exact .inr (.inr (.inr (.inl ⟨by rw [if_pos q'], z, ws, rfl, q'⟩)))
        · exact .inr (.inr (.inr (.inr (by rw [if_neg q']))))
      · exact .inr (.inr (.inr (.inr rfl)))
theorem sort1 {v : V} (e : keySort v = 1) : ∃ i, v = .int i := by
  rcases sort_cases v with ⟨q, x⟩ | ⟨q, x⟩ | ⟨q, x⟩ | ⟨q, x⟩ | q
  · exact x
  all_goals (rw [q] at e; cases e)
theorem sort2 {v : V} (e : keySort v = 2) : ∃ s, v = .str s := by
  rcases sort_cases v with ⟨q, x⟩ | ⟨q, x⟩ | ⟨q, x⟩ | ⟨q, x⟩ | q
  · rw [q] at e; cases e
  · exact x
  all_goals (rw [q] at e; cases e)
theorem sort3 {v : V} (e : keySort v = 3) : ∃ vs, v = .tup vs ∧ vs.all isInt = true := by
  rcases sort_cases v with ⟨q, x⟩ | ⟨q, x⟩ | ⟨q, x⟩ | ⟨q, x⟩ | q
  · rw [q] at e; cases e
  · rw [q] at e; cases e
  · exact x
  all_goals (rw [q] at e; cases e)
theorem sort4 {v : V} (e : keySort v = 4) : ∃ z ws, v = .tup [.int z, .tup ws] ∧ ws.all isInt = true := by
  rcases sort_cases v with ⟨q, x⟩ | ⟨q, x⟩ | ⟨q, x⟩ | ⟨q, x⟩ | q
  · rw [q] at e; cases e
  · rw [q] at e; cases e
  · rw [q] at e; cases e
  · exact x
  · rw [q] at e; cases e
theorem sort_lt (v : V) : keySort v = 0 ∨ keySort v = 1 ∨ keySort v = 2 ∨ keySort v = 3 ∨ keySort v = 4 := by
  rcases sort_cases v with ⟨q, x⟩ | ⟨q, x⟩ | ⟨q, x⟩ | ⟨q, x⟩ | q <;> simp [q]

theorem rep1 (v : V) (x : Value) (e : keySort v = 1) (r : Rv μ h v x) : (intKind prog w).is (toI v) x = true := by
  obtain ⟨i, rfl⟩ := sort1 e
  unfold Rv at r
  obtain ⟨t, rfl⟩ := r
  show (i == i) = true
  simp
theorem rep2 (v : V) (x : Value) (e : keySort v = 2) (r : Rv μ h v x) : (strKind prog w).is (toS v) x = true := by
  obtain ⟨i, rfl⟩ := sort2 e
  unfold Rv at r
  obtain ⟨t, rfl⟩ := r
  show (i == i) = true
  simp
theorem rep3 (v : V) (x : Value) (e : keySort v = 3) (r : Rv μ h v x) : ∃ a, x = .ref a ∧ (tupleKind (intKind prog w)).is h (toL v) a := by
  obtain ⟨vs, rfl, ha⟩ := sort3 e
  unfold Rv at r
  obtain ⟨a, n, xs, rfl, g, q⟩ := r
  exact ⟨a, rfl, _, xs, n, g, rfl, rfl, rv_ints ha q⟩
theorem rep4 (v : V) (x : Value) (e : keySort v = 4) (r : Rv μ h v x) : ∃ a, x = .ref a ∧ (pairKind prog w).is h (toP v) a := by
  obtain ⟨z, ws, rfl, ha⟩ := sort4 e
  unfold Rv at r
  obtain ⟨a, n, xs, rfl, g, q⟩ := r
  unfold Rvs at q
  obtain ⟨y1, ys1, e1, g1, q⟩ := q
  unfold Rvs at q
  obtain ⟨y2, ys2, e2, g2, q⟩ := q
  unfold Rvs at q
  subst q
  subst e2
  unfold Rv at g1 g2
  obtain ⟨t, rfl⟩ := g1
  obtain ⟨b, m, zs, rfl, gb, qb⟩ := g2
  exact ⟨a, rfl, _, xs, n, t, b, g, rfl, rfl, e1, _, zs, m, gb, rfl, rfl, rv_ints ha qb⟩
theorem inj1 (u v : V) (e : keySort u = 1) (f : keySort v = 1) (q : toI u = toI v) : u = v := by
  obtain ⟨i, rfl⟩ := sort1 e
  obtain ⟨j, rfl⟩ := sort1 f
  exact congrArg V.int q
theorem inj2 (u v : V) (e : keySort u = 2) (f : keySort v = 2) (q : toS u = toS v) : u = v := by
  obtain ⟨i, rfl⟩ := sort2 e
  obtain ⟨j, rfl⟩ := sort2 f
  exact congrArg V.str q
theorem inj3 (u v : V) (e : keySort u = 3) (f : keySort v = 3) (q : toL u = toL v) : u = v := by
  obtain ⟨i, rfl, h1⟩ := sort3 e
  obtain ⟨j, rfl, h2⟩ := sort3 f
  exact congrArg V.tup (toI_inj h1 h2 q)
theorem inj4 (u v : V) (e : keySort u = 4) (f : keySort v = 4) (q : toP u = toP v) : u = v := by
  obtain ⟨z, ws, rfl, h1⟩ := sort4 e
  obtain ⟨y, vs, rfl, h2⟩ := sort4 f
  have e1 : (z, ws.map toI) = (y, vs.map toI) := q
  injection e1 with e1 e2
  rw [e1, toI_inj h1 h2 e2]

theorem hash1 {v : V} (e : keySort v = 1) : hashV prog w v = (intKind prog w).hash (toI v) := by
  have : (intKind prog w).hash (toI v) = hashInt (toI v) := rfl
  rw [this]; simp only [hashV, e]
theorem hash2 {v : V} (e : keySort v = 2) : hashV prog w v = (strKind prog w).hash (toS v) := by
  have : (strKind prog w).hash (toS v) = hashStr w (toS v) := rfl
  rw [this]; simp only [hashV, e]
theorem hash3 {v : V} (e : keySort v = 3) : hashV prog w v = (tupleKind (intKind prog w)).hash (toL v) := by
  have : (tupleKind (intKind prog w)).hash (toL v) = tupleKeyHash (intKind prog w) (toL v) := rfl
  rw [this]; simp only [hashV, e]
theorem hash4 {v : V} (e : keySort v = 4) : hashV prog w v = (pairKind prog w).hash (toP v) := by
  have : (pairKind prog w).hash (toP v) = pairHash prog w (toP v) := rfl
  rw [this]; simp only [hashV, e]

section
variable {A : Around} {E : Value → Shared → Prop} {s : Shared}

theorem find_V {d : Addr} {o : Obj} {es : Array DictEntry} {ep : Nat} {kvs : List (V × V)} {k : V} {key : Value} {Q : Option Nat → Shared → Prop} (hu : A.units + 1 < cLine)
    (ho : s.heap.get? d = some o) (hd : o.data = .dict es ep) (hr : Rk prog w μ s.heap kvs es.toList) (hn : (kvs.map (·.1)).Nodup) (hk : Rv μ s.heap k key) (hf : KeyFits k kvs)
    (h : Q (idxOf k kvs) s) : wpAny (model prog w) A (dictFind d key (hashV prog w k)) Q E s := by
  rcases sort_lt k with q | q | q | q | q
  · exact absurd q hf.1
  · refine find_plain (intKind prog w) (fun v => keySort v = 1) toI rep1 inj1 (fun _ e => hash1 e) ho hd hr hk q (fun p hp => (hf.2 p hp).trans q) h
  · refine find_plain (strKind prog w) (fun v => keySort v = 2) toS rep2 inj2 (fun _ e => hash2 e) ho hd hr hk q (fun p hp => (hf.2 p hp).trans q) h
  · refine find_heap (tupleKind (intKind prog w)) (fun v => keySort v = 3) toL rep3 inj3 (fun _ e => hash3 e) (by show A.units < cLine; omega) ho hd hr hn hk q (fun p hp => (hf.2 p hp).trans q) h
  · refine find_heap (pairKind prog w) (fun v => keySort v = 4) toP rep4 inj4 (fun _ e => hash4 e) hu ho hd hr hn hk q (fun p hp => (hf.2 p hp).trans q) h

theorem pyHash_V {k : V} {key : Value} {Q : Int → Shared → Prop} (hu : A.units + 1 < cLine) (hk : Rv μ s.heap k key) (hf : keySort k ≠ 0)
    (h : ∀ tk, Q (hashV prog w k) { s with toks := tk }) : wpAny (model prog w) A (pyHash key) Q E s := by
  rcases sort_lt k with q | q | q | q | q
  · exact absurd q hf
  · refine (intKind prog w).pyHash (rep1 k key q hk) ?_
    have := h (s.toks + 1)
    rw [hash1 q] at this; exact this
  · refine (strKind prog w).pyHash (rep2 k key q hk) ?_
    have := h (s.toks + 1)
    rw [hash2 q] at this; exact this
  · obtain ⟨a, rfl, ha⟩ := rep3 (prog := prog) (w := w) k key q hk
    refine (tupleKind (intKind prog w)).pyHash (by show A.units < cLine; omega) ha ?_
    have := h (s.toks + ((toL k).length + 1))
    rw [hash3 q] at this; exact this
  · obtain ⟨a, rfl, ha⟩ := rep4 (prog := prog) (w := w) k key q hk
    refine (pairKind prog w).pyHash hu ha ?_
    have := h (s.toks + ((toP k).2.length + 3))
    rw [hash4 q] at this; exact this

/-- a dict object, its entries told -/
structure DictV (prog : Program) (w : World) (μ : Mu) (h : Heap) (d : Addr) (kvs : List (V × V)) : Prop where
  ex : ∃ n es, h.get? d = some { cls := .type "dict", data := .dict es n } ∧ Rk prog w μ h kvs es.toList
  nd : (kvs.map (·.1)).Nodup
theorem DictV.typeIs {d : Addr} {kvs : List (V × V)} (x : DictV prog w μ s.heap d kvs) : s.TypeIs (.ref d) "dict" := let ⟨_, _, ho, _⟩ := x.ex; ⟨_, ho, rfl⟩

theorem dictGet_V {d : Addr} {kvs : List (V × V)} {k : V} {key : Value} {Q : Option Value → Shared → Prop} (hu : A.units + 1 < cLine) (x : DictV prog w μ s.heap d kvs) (hk : Rv μ s.heap k key) (hf : KeyFits k kvs)
    (h0 : look k kvs = none → ∀ tk, Q none { s with toks := tk }) (h1 : ∀ v y, look k kvs = some v → Rv μ s.heap v y → ∀ tk, Q (some y) { s with toks := tk }) :
    wpAny (model prog w) A (dictGet d key) Q E s := by
  obtain ⟨⟨n, es, ho, hr⟩, hn⟩ := x
  unfold dictGet
  try with_reducible refine wpAny_holding ?_
  refine wpAny_bind (pyHash_V hu hk hf.1 fun tk => wpAny_bind (find_V (s := { s with toks := tk }) hu ho rfl hr hn hk hf ?_))
  cases q : idxOf k kvs with
  | none => exact wpAny_pure (h0 (by rw [look_idx, q]; rfl) tk)
  | some i =>
    obtain ⟨v, hv⟩ := idxOf_is q
    obtain ⟨e, he, _, hev, _⟩ := hr.at i _ hv
    refine wpAny_bind (wpAny_dictEntries (s := { s with toks := tk }) ho rfl ?_)
    have he' : es[i]? = some e := by rw [← he]; obtain ⟨l⟩ := es; simp
    rw [he']
    exact wpAny_pure (h1 v e.val (by rw [look_idx, q]; simp [hv]) hev tk)
end
end
end Sw

namespace Sw
open PySem
section
variable {prog : Program} {w : World} {μ : Mu} {h : Heap}

theorem Rk.modify {v : V} {x : Value} (hv : Rv μ h v x) : ∀ {kvs : List (V × V)} {es : List DictEntry}, Rk prog w μ h kvs es → ∀ i, Rk prog w μ h (kvs.modify i fun p => (p.1, v)) (es.modify i fun e => { e with val := x })
  | [], _, r, i => by simp only [Rk] at r; subst r; cases i <;> simp [Rk]
  | p :: ps, es, r, i => by
    obtain ⟨e, q, rfl, ⟨a, b, c⟩, r⟩ := r
    cases i with
    | zero => exact ⟨_, q, rfl, ⟨a, hv, c⟩, r⟩
    | succ i => exact ⟨e, _, rfl, ⟨a, b, c⟩, Rk.modify hv r i⟩
theorem Rk.push {k v : V} {y x : Value} (hk : Rv μ h k y) (hv : Rv μ h v x) : ∀ {kvs : List (V × V)} {es : List DictEntry}, Rk prog w μ h kvs es → Rk prog w μ h (kvs ++ [(k, v)]) (es ++ [⟨hashV prog w k, y, x⟩])
  | [], _, r => by simp only [Rk] at r; subst r; exact ⟨_, [], rfl, ⟨hk, hv, rfl⟩, rfl⟩
  | p :: ps, es, r => by
    obtain ⟨e, q, rfl, c, r⟩ := r
    exact ⟨e, _, rfl, c, Rk.push hk hv r⟩
theorem Rk.erase : ∀ {kvs : List (V × V)} {es : List DictEntry}, Rk prog w μ h kvs es → ∀ i, Rk prog w μ h (kvs.eraseIdx i) (es.eraseIdx i)
  | [], _, r, i => by simp only [Rk] at r; subst r; simp [Rk]
  | p :: ps, es, r, i => by
    obtain ⟨e, q, rfl, c, r⟩ := r
    cases i with
    | zero => exact r
    | succ i => exact ⟨e, _, rfl, c, r.erase i⟩

theorem up_same {h' : Heap} {d : Addr} {o : Obj} (ho : h.get? d = some o) (hne : ∀ xs n, o ≠ { cls := .type "tuple", data := .seq xs n }) (hs : Heap.SameBut d h h') : Up μ h μ h' :=
  ⟨fun a xs n e => by
    have : a ≠ d := by rintro rfl; rw [ho] at e; exact hne xs n (Option.some.inj e)
    exact (hs.2 a this).trans e, fun _ _ e => e⟩
theorem dict_ne (es : Array DictEntry) (n : Nat) : ∀ xs m, ({ cls := .type "dict", data := .dict es n } : Obj) ≠ { cls := .type "tuple", data := .seq xs m } := fun _ _ e => by
  injection e with e _; injection e with e; exact absurd e (by decide)
theorem list_ne (es : Array Value) (n : Nat) : ∀ xs m, ({ cls := .type "list", data := .seq es n } : Obj) ≠ { cls := .type "tuple", data := .seq xs m } := fun _ _ e => by
  injection e with e _; injection e with e; exact absurd e (by decide)

variable {A : Around} {E : Value → Shared → Prop} {s : Shared}

theorem dictSet_V {d : Addr} {kvs : List (V × V)} {k v : V} {key val : Value} {Q : Unit → Shared → Prop} (hu : A.units + 1 < cLine) (x : DictV prog w μ s.heap d kvs) (hk : Rv μ s.heap k key) (hv : Rv μ s.heap v val)
    (hf : KeyFits k kvs) (hz : kvs.length ≤ 1000)
    (hq : ∀ h' tk, DictV prog w μ h' d (putD k v kvs) → Heap.SameBut d s.heap h' → Up μ s.heap μ h' → Q () { s with heap := h', toks := tk }) :
    wpAny (model prog w) A (dictSet d key val) Q E s := by
  have x' := x
  obtain ⟨⟨n, es, ho, hr⟩, hn⟩ := x
  have hsz : es.size = kvs.length := by rw [← hr.length]; simp
  unfold dictSet
  try with_reducible refine wpAny_holding ?_
  refine wpAny_bind (pyHash_V hu hk hf.1 fun tk => ?_)
  unfold dictSetHashed
  try with_reducible refine wpAny_holding ?_
  refine wpAny_bind (find_V (s := { s with toks := tk }) hu ho rfl hr hn hk hf ?_)
  cases q : idxOf k kvs with
  | none =>
    have up : Up μ s.heap μ (s.heap.update d (Obj.mapDictKeys fun es => es.push ⟨hashV prog w k, key, val⟩)) := up_same ho (dict_ne es n) (Heap.SameBut.update ..)
    refine wpAny_bind (wpAny_rule (wpAny_updateDictKeys (hz := by rw [hsz, sizeLine_eq]; omega) (s := { s with toks := tk }) ho rfl (hq _ _ ⟨⟨n + 1, es.push ⟨hashV prog w k, key, val⟩, ?_, ?_⟩, (nodup_put hn).1⟩ (Heap.SameBut.update ..) up)))
    · exact Heap.get?_update_self _ ho rfl
    · rw [putD_idx, q, Array.toList_push]
      exact (hr.push hk hv).up up
  | some i =>
    have up : Up μ s.heap μ (s.heap.update d (Obj.mapDict fun es => es.modify i fun e => { e with val := val })) := up_same ho (dict_ne es n) (Heap.SameBut.update ..)
    refine wpAny_bind (wpAny_rule (wpAny_bind (wpAny_updateDict (s := { s with toks := tk }) ho rfl (wpAny_point (hq _ _ ⟨⟨n, es.modify i fun e => { e with val := val }, ?_, ?_⟩, (nodup_put hn).1⟩ (Heap.SameBut.update ..) up)))))
    · exact Heap.get?_update_self _ ho rfl
    · rw [putD_idx, q]
      have : (es.modify i fun e => { e with val := val }).toList = es.toList.modify i fun e => { e with val := val } := by obtain ⟨l⟩ := es; simp
      rw [this]
      exact (hr.modify hv i).up up

theorem takeOut_V {d : Addr} {kvs : List (V × V)} {k : V} {key : Value} {Q : Option DictEntry → Shared → Prop} (hu : A.units + 1 < cLine) (x : DictV prog w μ s.heap d kvs) (hk : Rv μ s.heap k key)
    (hf : KeyFits k kvs) (hz : kvs.length ≤ 100000) (hl : (look k kvs).isSome = true)
    (hq : ∀ e h' tk, DictV prog w μ h' d (delD k kvs) → Heap.SameBut d s.heap h' → Up μ s.heap μ h' → Q (some e) { s with heap := h', toks := tk }) :
    wpAny (model prog w) A (Builtin.Dict.takeOut d key) Q E s := by
  obtain ⟨⟨n, es, ho, hr⟩, hn⟩ := x
  have hsz : es.size = kvs.length := by rw [← hr.length]; simp
  unfold Builtin.Dict.takeOut
  try with_reducible refine wpAny_holding ?_
  refine wpAny_bind (pyHash_V hu hk hf.1 fun tk => ?_)
  refine wpAny_bind (find_V (s := { s with toks := tk }) hu ho rfl hr hn hk hf ?_)
  rw [look_idx] at hl
  cases q : idxOf k kvs with
  | none => rw [q] at hl; cases hl
  | some i =>
    obtain ⟨v, hv⟩ := idxOf_is q
    obtain ⟨e, he, _, hev, _⟩ := hr.at i _ hv
    refine wpAny_bind (wpAny_dictEntries (s := { s with toks := tk }) ho rfl ?_)
    have he' : es[i]? = some e := by rw [← he]; obtain ⟨l⟩ := es; simp
    rw [he']
    have up : Up μ s.heap μ (s.heap.update d (Obj.mapDictKeys fun es => es.eraseIdxIfInBounds i)) := up_same ho (dict_ne es n) (Heap.SameBut.update ..)
    refine wpAny_bind (wpAny_updateDictKeys (hz := by rw [hsz, sizeLine_eq]; omega) (s := { s with toks := tk }) ho rfl (wpAny_pure (hq e _ _ ⟨⟨n + 1, es.eraseIdxIfInBounds i, ?_, ?_⟩, nodup_del hn⟩ (Heap.SameBut.update ..) up)))
    · exact Heap.get?_update_self _ ho rfl
    · rw [delD_idx, q]
      have : (es.eraseIdxIfInBounds i).toList = es.toList.eraseIdx i := by obtain ⟨l⟩ := es; simp
      rw [this]
      exact (hr.erase i).up up

theorem getItem_V {d : Addr} {kvs : List (V × V)} {k v : V} {key : Value} {Q : Value → Shared → Prop} (hu : A.units + 2 < cLine) (x : DictV prog w μ s.heap d kvs) (hk : Rv μ s.heap k key) (hf : KeyFits k kvs)
    (hl : look k kvs = some v) (hq : ∀ y tk, Rv μ s.heap v y → Q y { s with toks := tk }) : wpAny (model prog w) A (getItem (.ref d) key) Q E s := by
  unfold getItem
  try with_reducible refine wpAny_holding ?_
  refine wpAny_bind (wpAny_sequenceKey x.typeIs (by decide) ?_)
  refine wpAny_bind (wpAny_callSpecial?_slot (name := Str.ofString "__getitem__") x.typeIs slot_dict_getitem
    (wpAny_call_entry slot_dict_getitem x.typeIs entry_dict_getitem ?_ (args_dict_getitem _ _)))
  show wpAny _ _ (dictGet d key >>= _) _ _ s
  refine wpAny_bind (dictGet_V (by show A.units + 1 + 1 < cLine; omega) x hk hf (fun e => by rw [hl] at e; cases e) fun v' y e hy tk => ?_)
  rw [hl] at e
  cases e
  exact wpAny_pure ⟨y, rfl, wpAny_pure (hq y tk hy)⟩

theorem setItem_V {d : Addr} {kvs : List (V × V)} {k v : V} {key val : Value} {Q : Unit → Shared → Prop} (hu : A.units + 2 < cLine) (x : DictV prog w μ s.heap d kvs) (hk : Rv μ s.heap k key) (hv : Rv μ s.heap v val)
    (hf : KeyFits k kvs) (hz : kvs.length ≤ 1000)
    (hq : ∀ h' tk, DictV prog w μ h' d (putD k v kvs) → Heap.SameBut d s.heap h' → Up μ s.heap μ h' → Q () { s with heap := h', toks := tk }) :
    wpAny (model prog w) A (setItem (.ref d) key val) Q E s := by
  unfold setItem
  try with_reducible refine wpAny_holding ?_
  refine wpAny_bind (wpAny_sequenceKey x.typeIs (by decide) ?_)
  refine wpAny_bind (wpAny_callSpecial?_slot (name := Str.ofString "__setitem__") x.typeIs slot_dict_setitem
    (wpAny_call_entry slot_dict_setitem x.typeIs entry_dict_setitem ?_ (args_dict_setitem _ _ _)))
  show wpAny _ _ (Builtin.Dict.notOrdered "__setitem__" ⟨[.ref d, key, val], []⟩ >>= _) _ _ s
  refine wpAny_bind (wpAny_notOrdered_dict x.typeIs ?_)
  show wpAny _ _ (dictSet d key val >>= _) _ _ s
  exact wpAny_bind (dictSet_V (by show A.units + 1 + 1 < cLine; omega) x hk hv hf hz fun h' tk hm' hs' up => wpAny_pure ⟨.none, rfl, wpAny_pure (hq h' tk hm' hs' up)⟩)

theorem in_V {d : Addr} {kvs : List (V × V)} {k : V} {key : Value} {Q : Value → Shared → Prop} (hu : A.units + 2 < cLine) (x : DictV prog w μ s.heap d kvs) (hk : Rv μ s.heap k key) (hf : KeyFits k kvs)
    (hd : (d == sysModules) = false) (hq : ∀ tk, Q (.bool (look k kvs).isSome) { s with toks := tk }) : wpAny (model prog w) A (compareOp .In key (.ref d)) Q E s := by
  show wpAny _ _ (do return .bool (← contains (.ref d) key)) Q E s
  refine wpAny_bind ?_
  unfold contains
  try with_reducible refine wpAny_holding ?_
  refine wpAny_bind (wpAny_specialOf x.typeIs slot_dict_contains.lookup ?_)
  show wpAny _ _ (if (some (Value.builtin "dict.__contains__") == some Value.none) = true then _ else _) _ E s
  rw [if_neg (by rw [beq_builtin_none]; exact Bool.false_ne_true)]
  refine wpAny_bind (wpAny_callSpecialUnlessNone?_slot (name := Str.ofString "__contains__") x.typeIs slot_dict_contains
    (wpAny_call_entry slot_dict_contains x.typeIs entry_dict_contains ?_ (args_dict_contains _ _)))
  show wpAny _ _ (dictGet d key >>= _) _ _ s
  refine wpAny_bind (dictGet_V (by show A.units + 1 + 1 < cLine; omega) x hk hf (fun e tk => ?_) fun v' y e hy tk => ?_)
  · have := hq tk
    rw [e] at this
    show wpAny _ _ (Builtin.Dict.pendingKey? d key >>= _) _ _ _
    exact wpAny_bind (wpAny_pendingKey_other hd (wpAny_pure ⟨_, rfl, wpAny_truthy_bool (wpAny_pure this)⟩))
  · have := hq tk
    rw [e] at this
    show wpAny _ _ (ret (.bool true)) _ _ _
    exact wpAny_pure ⟨_, rfl, wpAny_truthy_bool (wpAny_pure this)⟩

theorem delItem_V {d : Addr} {kvs : List (V × V)} {k : V} {key : Value} {Q : Unit → Shared → Prop} (hu : A.units + 2 < cLine) (x : DictV prog w μ s.heap d kvs) (hk : Rv μ s.heap k key)
    (hf : KeyFits k kvs) (hz : kvs.length ≤ 100000) (hl : (look k kvs).isSome = true)
    (hq : ∀ h' tk, DictV prog w μ h' d (delD k kvs) → Heap.SameBut d s.heap h' → Up μ s.heap μ h' → Q () { s with heap := h', toks := tk }) :
    wpAny (model prog w) A (delItem (.ref d) key) Q E s := by
  refine wpAny_delItem_slot x.typeIs (by decide) F.slot_dict_delitem (wpAny_call_entry F.slot_dict_delitem x.typeIs F.entry_dict_delitem ?_ (F.args_dict_delitem_2 _ _))
  unfold Builtin.«dict.__delitem__»
  refine wpAny_bind ?_
  unfold Builtin.Dict.dictSlotArgs
  refine wpAny_bind (wpAny_notOrdered_dict x.typeIs ?_)
  show wpAny _ _ (pure (Value.ref d, key)) _ _ s
  refine wpAny_pure ?_
  show wpAny _ _ (Builtin.Dict.takeOut d key >>= _) _ _ s
  refine wpAny_bind (takeOut_V (by show A.units + 1 + 1 < cLine; omega) x hk hf hz hl fun e h' tk a b c => ?_)
  exact wpAny_bind (wpAny_letGo (wpAny_pure ⟨.none, rfl, hq h' tk a b c⟩))
end
end Sw

namespace Sw
open PySem PySem.Calls

noncomputable def ow (p : Addr × Option Addr) : List Addr := p.1 :: p.2.toList
noncomputable def fpOf (μ : Mu) : List Addr := μ.flatMap ow
theorem fpOf_append (μ ν : Mu) : fpOf (μ ++ ν) = fpOf μ ++ fpOf ν := by simp [fpOf]
theorem mem_fp {μ : Mu} {k : Nat} {p : Addr × Option Addr} (h : μ[k]? = some p) {b : Addr} (hb : b ∈ ow p) : b ∈ fpOf μ :=
  List.mem_flatMap.mpr ⟨p, List.mem_of_getElem? h, hb⟩
theorem fp_same : ∀ {μ : Mu}, (fpOf μ).Nodup → ∀ {i j : Nat} {p q : Addr × Option Addr} {b : Addr}, μ[i]? = some p → μ[j]? = some q → b ∈ ow p → b ∈ ow q → i = j
  | [], _, i, _, _, _, _, h, _, _, _ => by simp at h
  | x :: μ, hn, i, j, p, q, b, hi, hj, hp, hq => by
    have e : fpOf (x :: μ) = ow x ++ fpOf μ := by simp [fpOf]
    rw [e, List.nodup_append] at hn
    cases i with
    | zero =>
      simp at hi; subst hi
      cases j with
      | zero => rfl
      | succ j => exact absurd rfl (hn.2.2 b hp b (mem_fp (by simpa using hj) hq))
    | succ i =>
      cases j with
      | zero => simp at hj; subst hj; exact absurd rfl (hn.2.2 b hq b (mem_fp (by simpa using hi) hp))
      | succ j => exact congrArg Nat.succ (fp_same hn.2.1 (p := p) (q := q) (by simpa using hi) (by simpa using hj) hp hq)

structure IsInst (h : Heap) (a C dx : Addr) (mA : Str → Option Value) : Prop where
  obj : ∃ o, h.get? a = some o ∧ o.cls = .ref C ∧ (∀ c, o.data ≠ .cls c) ∧ o.dict = some dx
  ne : dx ≠ a
  ns : h.Ns1 dx mA
  within : PySem.Within mA clsNames

section
variable (prog : Program) (w : World)
noncomputable def RO (μ : Mu) (h : Heap) (o : SO) (p : Addr × Option Addr) : Prop := match o with
  | .list vs => p.2 = none ∧ ∃ n xs, h.get? p.1 = some { cls := .type "list", data := .seq xs n } ∧ Rvs μ h vs xs.toList
  | .dict kvs => p.2 = none ∧ DictV prog w μ h p.1 kvs
  | .inst C as => (C = 122 ∨ C = 144) ∧ ∃ dx mA, p.2 = some dx ∧ IsInst h p.1 C dx mA ∧ ∀ x v, as.lookup x = some v → ∃ y, mA x = some y ∧ Rv μ h v y

structure St (B : Heap) (μ : Mu) (σ : SH) (h : Heap) : Prop where
  keep : ∀ b o, B.get? b = some o → h.get? b = some o
  obj : ∀ (k : Nat) (o : SO), σ[k]? = some o → ∃ p, μ[k]? = some p ∧ RO prog w μ h o p
  len : μ.length = σ.length
  nd : (fpOf μ).Nodup
  new : ∀ b ∈ fpOf μ, B.get? b = none
  live : ∀ b ∈ fpOf μ, ∃ o, h.get? b = some o
theorem St.lt {prog : Program} {w : World} {B : Heap} {μ : Mu} {σ : SH} {h : Heap} (S : St prog w B μ σ h) : ∀ b ∈ fpOf μ, b < h.objs.size := fun b hb => let ⟨_, e⟩ := S.live b hb; Heap.lt_size e
end

structure Ext (ws : List Addr) (μ : Mu) (h : Heap) (μ' : Mu) (h' : Heap) : Prop where
  pre : ∃ ν, μ' = μ ++ ν
  keep : ∀ b o, h.get? b = some o → b ∉ fpOf μ → b ∉ ws → h'.get? b = some o
  tup : ∀ a xs n, h.get? a = some { cls := .type "tuple", data := .seq xs n } → h'.get? a = some { cls := .type "tuple", data := .seq xs n }
  new : ∀ b ∈ fpOf μ', b ∈ fpOf μ ∨ h.get? b = none
  live : ∀ b o, h.get? b = some o → ∃ o', h'.get? b = some o'
theorem Ext.refl (ws : List Addr) (μ : Mu) (h : Heap) : Ext ws μ h μ h := ⟨⟨[], by simp⟩, fun _ _ e _ _ => e, fun _ _ _ e => e, fun _ hb => .inl hb, fun _ o e => ⟨o, e⟩⟩
theorem Ext.mu {ws μ h μ' h'} (x : Ext ws μ h μ' h') {k : Nat} {p : Addr × Option Addr} (e : μ[k]? = some p) : μ'[k]? = some p := by
  obtain ⟨ν, rfl⟩ := x.pre
  rw [List.getElem?_append_left (List.getElem?_eq_some_iff.mp e).1]; exact e
theorem Ext.up {ws μ h μ' h'} (x : Ext ws μ h μ' h') : Up μ h μ' h' := ⟨x.tup, fun _ _ e => x.mu e⟩
theorem Ext.trans {ws μ h μ' h' μ'' h''} (x : Ext ws μ h μ' h') (y : Ext ws μ' h' μ'' h'') : Ext ws μ h μ'' h'' where
  pre := by
    obtain ⟨ν, rfl⟩ := x.pre
    obtain ⟨ν', rfl⟩ := y.pre
    exact ⟨ν ++ ν', by simp⟩
  keep := fun b o e hf hw => by
    have e' := x.keep b o e hf hw
    refine y.keep b o e' (fun hm => ?_) hw
    rcases x.new b hm with q | q
    · exact hf q
    · rw [e] at q; cases q
  tup := fun a xs n e => y.tup a xs n (x.tup a xs n e)
  new := fun b hb => by
    rcases y.new b hb with q | q
    · exact x.new b q
    · right
      cases hw : h.get? b with
      | none => rfl
      | some o =>
        obtain ⟨o', e⟩ := x.live b o hw
        rw [e] at q; cases q
  live := fun b o e => by
    obtain ⟨o', e'⟩ := x.live b o e
    exact y.live b o' e'
theorem Ext.mono {ws ws' μ h μ' h'} (x : Ext ws μ h μ' h') (hs : ∀ b ∈ ws, b ∈ ws') : Ext ws' μ h μ' h' :=
  ⟨x.pre, fun b o e hf hw => x.keep b o e hf fun q => hw (hs b q), x.tup, x.new, x.live⟩
theorem Ext.nil {ws μ h μ' h'} (x : Ext [] μ h μ' h') : Ext ws μ h μ' h' := x.mono fun _ hb => nomatch hb

/-- an object that is pushed, of which the shadow says nothing -/
theorem ext_push (ws : List Addr) (μ : Mu) (h : Heap) (o : Obj) : Ext ws μ h μ (h.push o) :=
  ⟨⟨[], by simp⟩, fun _ _ e _ _ => Heap.get?_push_of_some _ e, fun _ _ _ e => Heap.get?_push_of_some _ e, fun _ hb => .inl hb, fun _ _ e => ⟨_, Heap.get?_push_of_some _ e⟩⟩
theorem ext_of_keep (ws : List Addr) (μ : Mu) {h h' : Heap} (k : ∀ b o, h.get? b = some o → h'.get? b = some o) : Ext ws μ h μ h' :=
  ⟨⟨[], by simp⟩, fun b o e _ _ => k b o e, fun _ _ _ e => k _ _ e, fun _ hb => .inl hb, fun b o e => ⟨o, k b o e⟩⟩

section
variable {prog : Program} {w : World} {B : Heap} {μ : Mu} {σ : SH} {h : Heap}
theorem IsInst.same {h' : Heap} {a C dx : Addr} {mA : Str → Option Value} (x : IsInst h a C dx mA) (k1 : ∀ o, h.get? a = some o → h'.get? a = some o) (k2 : ∀ o, h.get? dx = some o → h'.get? dx = some o) : IsInst h' a C dx mA :=
  ⟨by obtain ⟨o, h1, h2⟩ := x.obj; exact ⟨o, k1 o h1, h2⟩, x.ne, x.ns.at k2, x.within⟩
theorem DictV.same {h' : Heap} {μ' : Mu} {d : Addr} {kvs : List (V × V)} (x : DictV prog w μ h d kvs) (k : ∀ o, h.get? d = some o → h'.get? d = some o) (u : Up μ h μ' h') : DictV prog w μ' h' d kvs :=
  ⟨by obtain ⟨n, es, h1, h2⟩ := x.ex; exact ⟨n, es, k _ h1, h2.up u⟩, x.nd⟩
/-- an object whose own places stand is as it was -/
theorem RO.same {h' : Heap} {μ' : Mu} {o : SO} {p : Addr × Option Addr} (x : RO prog w μ h o p) (k : ∀ b ∈ ow p, ∀ ob, h.get? b = some ob → h'.get? b = some ob) (u : Up μ h μ' h') : RO prog w μ' h' o p := by
  cases o with
  | list vs =>
    obtain ⟨e, n, xs, h1, h2⟩ := x
    exact ⟨e, n, xs, k _ (.head _) _ h1, h2.up u⟩
  | dict kvs =>
    obtain ⟨e, h1⟩ := x
    exact ⟨e, h1.same (fun o e => k _ (.head _) o e) u⟩
  | inst C as =>
    obtain ⟨hC, dx, mA, e, h1, h2⟩ := x
    refine ⟨hC, dx, mA, e, h1.same (fun o e => k _ (.head _) o e) (fun o q => k _ (by unfold ow; rw [e]; exact .tail _ (.head _)) o q), fun x v hx => ?_⟩
    obtain ⟨y, hy, r⟩ := h2 x v hx
    exact ⟨y, hy, r.up u⟩

/-- objects outside the shadow's places turn, or are made: the shadow stands -/
theorem St.outside (S : St prog w B μ σ h) {h' : Heap} (k : ∀ b o, h.get? b = some o → b ∈ fpOf μ ∨ (B.get? b).isSome = true → h'.get? b = some o) (u : Up μ h μ h') : St prog w B μ σ h' where
  keep := fun b o e => k b o (S.keep b o e) (.inr (by rw [e]; rfl))
  obj := fun i o e => by
    obtain ⟨p, hp, r⟩ := S.obj i o e
    exact ⟨p, hp, r.same (fun b hb ob hob => k b ob hob (.inl (mem_fp hp hb))) u⟩
  len := S.len
  nd := S.nd
  new := S.new
  live := fun b hb => let ⟨o, e⟩ := S.live b hb; ⟨o, k b o e (.inl hb)⟩
theorem St.push (S : St prog w B μ σ h) (o : Obj) : St prog w B μ σ (h.push o) :=
  S.outside (fun _ _ e _ => Heap.get?_push_of_some _ e) (ext_push [] μ h o).up
/-- all that was stands as it was: the shadow stands -/
theorem St.kept (S : St prog w B μ σ h) {h' : Heap} (k : ∀ b o, h.get? b = some o → h'.get? b = some o) : St prog w B μ σ h' :=
  S.outside (fun _ _ e _ => k _ _ e) (ext_of_keep [] μ k).up

/-- a new object, at a fresh place -/
theorem St.grow (S : St prog w B μ σ h) {o : SO} {p : Addr × Option Addr} (hf : ∀ b ∈ ow p, b ∉ fpOf μ ∧ B.get? b = none ∧ ∃ o, h.get? b = some o) (hn : (ow p).Nodup) (r : RO prog w μ h o p) : St prog w B (μ ++ [p]) (σ ++ [o]) h := by
  have u : Up μ h (μ ++ [p]) h := ⟨fun _ _ _ e => e, fun k q e => by rw [List.getElem?_append_left (List.getElem?_eq_some_iff.mp e).1]; exact e⟩
  have e1 : fpOf (μ ++ [p]) = fpOf μ ++ ow p := by rw [fpOf_append]; simp [fpOf]
  refine ⟨S.keep, fun i q e => ?_, by simp [S.len], ?_, ?_, ?_⟩
  · by_cases hi : i < σ.length
    · rw [List.getElem?_append_left hi] at e
      obtain ⟨x, hx, rx⟩ := S.obj i q e
      exact ⟨x, u.mu i x hx, rx.same (fun _ _ _ e => e) u⟩
    · have : i = σ.length := by
        have := (List.getElem?_eq_some_iff.mp e).1
        rw [List.length_append, List.length_singleton] at this
        omega
      subst this
      rw [List.getElem?_append_right (Nat.le_refl _), Nat.sub_self] at e
      cases e
      refine ⟨p, ?_, r.same (fun _ _ _ e => e) u⟩
      rw [← S.len, List.getElem?_append_right (Nat.le_refl _), Nat.sub_self]; rfl
  · rw [e1, List.nodup_append]
    exact ⟨S.nd, hn, fun a ha b hb e => (hf b hb).1 (e ▸ ha)⟩
  · intro b hb
    rw [e1] at hb
    rcases List.mem_append.mp hb with q | q
    · exact S.new b q
    · exact (hf b q).2.1
  · intro b hb
    rw [e1] at hb
    rcases List.mem_append.mp hb with q | q
    · exact S.live b q
    · exact (hf b q).2.2

theorem St.fresh (S : St prog w B μ σ h) : h.objs.size ∉ fpOf μ ∧ B.get? h.objs.size = none :=
  ⟨fun hm => Nat.lt_irrefl _ (S.lt _ hm), by
    cases q : B.get? h.objs.size with
    | none => rfl
    | some o => exact absurd (Heap.lt_size (S.keep _ _ q)) (Nat.lt_irrefl _)⟩

/-- a list or a dict, just made -/
theorem St.alloc (S : St prog w B μ σ h) {o : SO} {ob : Obj} (hfr : ob.isFreed = false) (r : RO prog w μ (h.push ob) o (h.objs.size, none)) : St prog w B (μ ++ [(h.objs.size, none)]) (σ ++ [o]) (h.push ob) ∧ Ext [] μ h (μ ++ [(h.objs.size, none)]) (h.push ob) := by
  have e1 : fpOf (μ ++ [(h.objs.size, none)]) = fpOf μ ++ [h.objs.size] := by rw [fpOf_append]; simp [fpOf, ow]
  refine ⟨(S.push ob).grow (p := (h.objs.size, none)) (fun b hb => ?_) (by simp [ow]) r, ⟨⟨_, rfl⟩, (ext_push [] μ h ob).keep, (ext_push [] μ h ob).tup, fun b hb => ?_, (ext_push [] μ h ob).live⟩⟩
  · have : b = h.objs.size := by simpa [ow] using hb
    subst this
    exact ⟨S.fresh.1, S.fresh.2, _, Heap.get?_push_size _ hfr⟩
  · rw [e1] at hb
    rcases List.mem_append.mp hb with q | q
    · exact .inl q
    · right
      have : b = h.objs.size := by simpa using q
      subst this
      cases q : h.get? h.objs.size with
      | none => rfl
      | some o => exact absurd (Heap.lt_size q) (Nat.lt_irrefl _)

/-- one object turns, at its own places -/
theorem St.turn (S : St prog w B μ σ h) {h' : Heap} {k : Nat} {o : SO} {p : Addr × Option Addr} (hp : μ[k]? = some p) (r : RO prog w μ h' o p) (hk : ∀ b ob, h.get? b = some ob → b ∉ ow p → h'.get? b = some ob) (u : Up μ h μ h')
    (hl : ∀ b ∈ ow p, ∀ ob, h.get? b = some ob → ∃ ob', h'.get? b = some ob') : St prog w B μ (σ.set k o) h' ∧ Ext [] μ h μ h' := by
  refine ⟨⟨fun b ob e => ?_, fun i q e => ?_, by rw [S.len, List.length_set], S.nd, S.new, fun b hb => ?_⟩, ⟨⟨[], by simp⟩, fun b ob e hf _ => hk b ob e fun q => hf (mem_fp hp q), u.tup, fun _ hb => .inl hb, fun b ob e => ?_⟩⟩
  · refine hk b ob (S.keep b ob e) fun q => ?_
    rw [S.new b (mem_fp hp q)] at e; cases e
  · by_cases hi : i = k
    · subst hi
      have hlt : i < σ.length := by rw [← S.len]; exact (List.getElem?_eq_some_iff.mp hp).1
      rw [List.getElem?_set_self hlt] at e
      cases e
      exact ⟨p, hp, r⟩
    · rw [List.getElem?_set_ne (Ne.symm hi)] at e
      obtain ⟨x, hx, rx⟩ := S.obj i q e
      refine ⟨x, hx, rx.same (fun b hb ob hob => hk b ob hob fun q => ?_) u⟩
      exact hi (fp_same S.nd hx hp hb q)
  · obtain ⟨ob, e⟩ := S.live b hb
    by_cases hb : b ∈ ow p
    · exact hl b hb ob e
    · exact ⟨ob, hk b ob e hb⟩
  · by_cases hb : b ∈ ow p
    · exact hl b hb ob e
    · exact ⟨ob, hk b ob e hb⟩
end
end Sw

namespace Sw
open PySem PySem.Calls PyProof.Rows

noncomputable def noE : Value → Shared → Prop := fun _ _ => False
structure Rest (s s' : Shared) : Prop where
  gens : s'.gens = s.gens
  drawn : s'.drawn = s.drawn
  os : s'.os = s.os
theorem Rest.refl (s : Shared) : Rest s s := ⟨rfl, rfl, rfl⟩
theorem Rest.trans {s s' s'' : Shared} (x : Rest s s') (y : Rest s' s'') : Rest s s'' := ⟨y.gens.trans x.gens, y.drawn.trans x.drawn, y.os.trans x.os⟩

structure Room (n : Nat) (A : Around) : Prop where
  handled : A.handled = none
  depth : A.depth + n < recursionLimit
  units : A.units + 8 * n + 100 < cLine
theorem Room.mono {n m : Nat} {A : Around} (x : Room n A) (h : m ≤ n) : Room m A := ⟨x.handled, by have := x.depth; omega, by have := x.units; omega⟩
theorem Room.in1 {n : Nat} {A : Around} (x : Room (n + 1) A) : Room n A.in1 := ⟨x.handled, by have := x.depth; show A.depth + n < _; omega, by have := x.units; show A.units + 1 + 8 * n + 100 < cLine; omega⟩

section
variable (prog : Program) (w : World) (B : Heap)
/-- what stands behind a step: the shadow's answer, told of the model's state -/
noncomputable def Post {α β : Type} (R : Mu → Heap → α → β → Prop) (ws : List Addr) (μ : Mu) (s : Shared) (K : α → SH → Prop) : β → Shared → Prop := fun x s' =>
  ∃ v σ' μ', K v σ' ∧ St prog w B μ' σ' s'.heap ∧ Ext ws μ s.heap μ' s'.heap ∧ R μ' s'.heap v x ∧ Rest s s'
noncomputable def eqR {α : Type} : Mu → Heap → α → α → Prop := fun _ _ a b => a = b
end

section
variable {prog : Program} {w : World} {B : Heap} {A : Around} {s : Shared} {μ : Mu} {σ : SH}
theorem Post.back {α β : Type} {R : Mu → Heap → α → β → Prop} {ws : List Addr} {s₁ : Shared} {μ₁ : Mu} {K : α → SH → Prop} (X : Ext ws μ s.heap μ₁ s₁.heap) (Y : Rest s s₁) {x : β} {s' : Shared}
    (P : Post prog w B R ws μ₁ s₁ K x s') : Post prog w B R ws μ s K x s' := by
  obtain ⟨v, σ', μ', h1, h2, h3, h4, h5⟩ := P
  exact ⟨v, σ', μ', h1, h2, X.trans h3, h4, Y.trans h5⟩
theorem wp_back {α β : Type} {R : Mu → Heap → α → β → Prop} {ws : List Addr} {s₁ : Shared} {μ₁ : Mu} {K : α → SH → Prop} (X : Ext ws μ s.heap μ₁ s₁.heap) (Y : Rest s s₁) {t : Sem β}
    (h : wpAny (model prog w) A t (Post prog w B R ws μ₁ s₁ K) noE s₁) : wpAny (model prog w) A t (Post prog w B R ws μ s K) noE s₁ :=
  wpAny_mono h (fun _ _ P => P.back X Y) fun _ _ e => e
/-- go on behind a step -/
theorem wp_then {α β : Type} {R : Mu → Heap → α → β → Prop} {ws : List Addr} {K : α → SH → Prop} {t : Sem β} {G : β → Shared → Prop} (h : wpAny (model prog w) A t (Post prog w B R ws μ s K) noE s)
    (k : ∀ v x σ₁ μ₁ s₁, K v σ₁ → St prog w B μ₁ σ₁ s₁.heap → Ext ws μ s.heap μ₁ s₁.heap → R μ₁ s₁.heap v x → Rest s s₁ → G x s₁) : wpAny (model prog w) A t G noE s :=
  wpAny_mono h (fun x s₁ P => by
    obtain ⟨v, σ', μ', h1, h2, h3, h4, h5⟩ := P
    exact k v x σ' μ' s₁ h1 h2 h3 h4 h5) fun _ _ e => e
theorem Post.now {α β : Type} {R : Mu → Heap → α → β → Prop} {ws : List Addr} {K : α → SH → Prop} {v : α} {x : β} (S : St prog w B μ σ s.heap) (r : R μ s.heap v x) (hK : K v σ) (tk : Nat) :
    Post prog w B R ws μ s K x { s with toks := tk } := ⟨v, σ, μ, hK, S, Ext.refl _ _ _, r, ⟨rfl, rfl, rfl⟩⟩
theorem Post.here {α β : Type} {R : Mu → Heap → α → β → Prop} {ws : List Addr} {K : α → SH → Prop} {v : α} {x : β} (S : St prog w B μ σ s.heap) (r : R μ s.heap v x) (hK : K v σ) :
    Post prog w B R ws μ s K x s := ⟨v, σ, μ, hK, S, Ext.refl _ _ _, r, Rest.refl s⟩

theorem rv_int {h : Heap} (i : Int) (t : Tok) : Rv μ h (.int i) (.int i t) := by unfold Rv; exact ⟨t, rfl⟩
theorem rv_bool {h : Heap} (b : Bool) : Rv μ h (.bool b) (.bool b) := by unfold Rv; rfl
theorem rv_none {h : Heap} : Rv μ h .none .none := by unfold Rv; rfl
theorem rv_str {h : Heap} (x : Str) (t : Tok) : Rv μ h (.str x) (.str x t) := by unfold Rv; exact ⟨t, rfl⟩

/-- a tuple, just made -/
theorem Post.tuple {ws : List Addr} {K : V → SH → Prop} {vs : List V} {xs : List Value} (S : St prog w B μ σ s.heap) (r : Rvs μ s.heap vs xs) (hK : K (.tup vs) σ) :
    Post prog w B Rv ws μ s K (.ref s.heap.objs.size) { s with heap := s.heap.push { cls := .type "tuple", data := .seq xs.toArray } } := by
  refine ⟨.tup vs, σ, μ, hK, S.push _, ext_push _ _ _ _, ?_, ⟨rfl, rfl, rfl⟩⟩
  unfold Rv
  exact ⟨_, 0, xs.toArray, rfl, Heap.get?_push_size _ rfl, by simpa using r.up (ext_push [] μ s.heap _).up⟩
/-- a list, just made -/
theorem Post.list {ws : List Addr} {K : V → SH → Prop} {vs : List V} {xs : List Value} (S : St prog w B μ σ s.heap) (r : Rvs μ s.heap vs xs) (hK : K (.ref σ.length) (σ ++ [.list vs])) :
    Post prog w B Rv ws μ s K (.ref s.heap.objs.size) { s with heap := s.heap.push { cls := .type "list", data := .seq xs.toArray } } := by
  obtain ⟨S', X⟩ := S.alloc (o := .list vs) (ob := { cls := .type "list", data := .seq xs.toArray }) rfl ⟨rfl, 0, xs.toArray, Heap.get?_push_size _ rfl, by simpa using r.up (ext_push [] μ s.heap _).up⟩
  refine ⟨.ref σ.length, _, _, hK, S', X.nil, ?_, ⟨rfl, rfl, rfl⟩⟩
  unfold Rv
  exact ⟨(s.heap.objs.size, none), by rw [← S.len, List.getElem?_append_right (Nat.le_refl _), Nat.sub_self]; rfl, rfl⟩

theorem rv_list {h : Heap} (S : St prog w B μ σ h) {k : Nat} {vs : List V} {x : Value} (r : Rv μ h (.ref k) x) (e : σ[k]? = some (.list vs)) : ∃ a n xs, μ[k]? = some (a, none) ∧ x = .ref a ∧ h.get? a = some { cls := .type "list", data := .seq xs n } ∧ Rvs μ h vs xs.toList := by
  unfold Rv at r
  obtain ⟨p, hp, rfl⟩ := r
  obtain ⟨p', hp', r⟩ := S.obj k _ e
  obtain rfl := Option.some.inj (hp.symm.trans hp')
  obtain ⟨e2, n, xs, h1, h2⟩ := r
  obtain ⟨a, d⟩ := p
  dsimp only at e2
  subst e2
  exact ⟨a, n, xs, hp, rfl, h1, h2⟩
theorem rv_dict {h : Heap} (S : St prog w B μ σ h) {k : Nat} {kvs : List (V × V)} {x : Value} (r : Rv μ h (.ref k) x) (e : σ[k]? = some (.dict kvs)) : ∃ a, μ[k]? = some (a, none) ∧ x = .ref a ∧ DictV prog w μ h a kvs := by
  unfold Rv at r
  obtain ⟨p, hp, rfl⟩ := r
  obtain ⟨p', hp', r⟩ := S.obj k _ e
  obtain rfl := Option.some.inj (hp.symm.trans hp')
  obtain ⟨e2, h1⟩ := r
  obtain ⟨a, d⟩ := p
  dsimp only at e2
  subst e2
  exact ⟨a, hp, rfl, h1⟩

/- the data of a value are read in the heap -/
mutual
theorem reads_py {h : Heap} : ∀ {v : V} {x : Value} {d : PyData}, Rv μ h v x → V.py v = some d → ∃ as, Reads h x d as
  | .none, x, d, r, e => by unfold Rv at r; subst r; simp [V.py] at e; subst e; exact ⟨[], .none⟩
  | .bool b, x, d, r, e => by unfold Rv at r; subst r; simp [V.py] at e; subst e; exact ⟨[], .bool b⟩
  | .int i, x, d, r, e => by unfold Rv at r; obtain ⟨t, rfl⟩ := r; simp [V.py] at e; subst e; exact ⟨[], .int i t⟩
  | .str i, x, d, r, e => by unfold Rv at r; obtain ⟨t, rfl⟩ := r; simp [V.py] at e; subst e; exact ⟨[], .str i t⟩
  | .tup vs, x, d, r, e => by
    unfold Rv at r
    obtain ⟨a, n, xs, rfl, g, q⟩ := r
    unfold V.py at e
    obtain ⟨ds, hd, rfl⟩ := Option.map_eq_some_iff.mp e
    obtain ⟨as, ha⟩ := reads_pys q hd
    exact ⟨as, .tuple g rfl rfl ha⟩
  | .ref k, x, d, r, e => by simp [V.py] at e
theorem reads_pys {h : Heap} : ∀ {vs : List V} {xs : List Value} {ds : List PyData}, Rvs μ h vs xs → V.pys vs = some ds → ∃ as, ReadsAll h xs ds as
  | [], xs, ds, r, e => by unfold Rvs at r; subst r; simp [V.pys] at e; subst e; exact ⟨[], .nil⟩
  | v :: vs, xs, ds, r, e => by
    unfold Rvs at r
    obtain ⟨y, ys, rfl, g, q⟩ := r
    unfold V.pys at e
    cases h1 : V.py v with
    | none => rw [h1] at e; cases e
    | some d =>
      cases h2 : V.pys vs with
      | none => rw [h1, h2] at e; cases e
      | some es =>
        rw [h1, h2] at e
        cases e
        obtain ⟨as, ha⟩ := reads_py g h1
        obtain ⟨bs, hb⟩ := reads_pys q h2
        exact ⟨as ++ bs, .cons ha hb⟩
end
theorem reads_of {h : Heap} (S : St prog w B μ σ h) {v : V} {x : Value} {d : PyData} (r : Rv μ h v x) (e : pyOf σ v = some d) : ∃ as, Reads h x d as := by
  cases v with
  | ref k =>
    unfold pyOf at e
    dsimp only at e
    cases q : σ[k]? with
    | none => rw [q] at e; cases e
    | some o =>
      rw [q] at e
      cases o with
      | list vs =>
        obtain ⟨ds, hd, rfl⟩ := Option.map_eq_some_iff.mp e
        obtain ⟨a, n, xs, _, rfl, h1, h2⟩ := rv_list S r q
        obtain ⟨as, ha⟩ := reads_pys h2 hd
        exact ⟨_, .list h1 rfl rfl ha⟩
      | _ => cases e
  | _ => exact reads_py r e

theorem intBits_small {i : Int} (h : i.natAbs < 2 ^ 64) : Builtin.Int.intBits i ≤ 64 := intBits_le_64 (by omega) (by omega)

theorem ii_is {a b : V} {f : Int → Int → Prop} {x y : Value} {μ : Mu} {h : Heap} (hi : ii a b f) (ra : Rv μ h a x) (rb : Rv μ h b y) : ∃ i j t u, x = .int i t ∧ y = .int j u ∧ f i j := by
  cases a with
  | int i => cases b with
    | int j =>
      unfold Rv at ra rb
      obtain ⟨t, rfl⟩ := ra
      obtain ⟨u, rfl⟩ := rb
      exact ⟨i, j, t, u, rfl, rfl, hi⟩
    | _ => exact hi.elim
  | _ => exact hi.elim
theorem binW_snd {op : Operator} {a b : V} {x y : Value} {K : KE} (h : binW op a b σ K) (S : St prog w B μ σ s.heap) (ra : Rv μ s.heap a x) (rb : Rv μ s.heap b y) :
    wpAny (model prog w) A (binaryOp op x y) (Post prog w B Rv [] μ s K) noE s := by
  cases op with
  | Add =>
    cases a with
    | int i => cases b with
      | int j =>
        unfold Rv at ra rb
        obtain ⟨t, rfl⟩ := ra
        obtain ⟨u, rfl⟩ := rb
        exact P.add_int (Post.now S (rv_int _ _) h _)
      | _ => exact h.elim
    | tup xs => cases b with
      | tup ys =>
        replace h := ck.and h
        unfold Rv at ra rb
        obtain ⟨a, n, us, rfl, g1, q1⟩ := ra
        obtain ⟨b, m, zs, rfl, g2, q2⟩ := rb
        have l1 := q1.length
        have l2 := q2.length
        by_cases e1 : us.isEmpty = true
        · have : xs = [] := by
            rw [Array.isEmpty_iff] at e1; subst e1
            exact List.eq_nil_of_length_eq_zero l1.symm
          subst this
          refine concat_meets ⟨_, g1, rfl⟩ ⟨_, g2, rfl⟩ noFill_tuple_add seq_tuple_add F.slot_tuple_add F.entry_tuple_add (F.args_tuple_add_2 _ _) (tuple_addW0 a b us zs n m none none #[] #[] e1) ⟨g1, g2, ?_⟩
          refine Post.here S ?_ h.2
          unfold Rv
          exact ⟨b, m, zs, rfl, g2, q2⟩
        · by_cases e2 : zs.isEmpty = true
          · have : ys = [] := by
              rw [Array.isEmpty_iff] at e2; subst e2
              exact List.eq_nil_of_length_eq_zero l2.symm
            subst this
            refine concat_meets ⟨_, g1, rfl⟩ ⟨_, g2, rfl⟩ noFill_tuple_add seq_tuple_add F.slot_tuple_add F.entry_tuple_add (F.args_tuple_add_2 _ _) (tuple_addW1 a b us zs n m none none #[] #[] e1 e2) ⟨g1, g2, ?_⟩
            have hK := h.2
            rw [List.append_nil] at hK
            refine Post.here S ?_ hK
            unfold Rv
            exact ⟨a, n, us, rfl, g1, q1⟩
          · refine P.add_tuple g1 g2 e1 e2 ?_ (hsz := by
              have e1 : us.size = xs.length := by rw [← l1]; simp
              have e2 : zs.size = ys.length := by rw [← l2]; simp
              rw [e1, e2, sizeLine_eq]; have := h.1; omega)
            have := Post.tuple (ws := []) S (q1.append q2) h.2
            have e : (us.toList ++ zs.toList).toArray = us ++ zs := by simp
            rw [e] at this; exact this
      | _ => exact h.elim
    | ref ax => cases b with
      | ref ay =>
        obtain ⟨x, e1, h⟩ := oP_is h
        obtain ⟨y, e2, h⟩ := oP_is h
        cases x with
        | list xs => cases y with
          | list ys =>
            obtain ⟨a, n, us, _, rfl, g1, q1⟩ := rv_list S ra e1
            obtain ⟨b, m, zs, _, rfl, g2, q2⟩ := rv_list S rb e2
            refine P.add_list g1 g2 ?_ (hsz := by
                have e1 := q1.length
                have e2 := q2.length
                rw [Array.length_toList] at e1 e2
                rw [e1, e2, sizeLine_eq]; have := h.1; omega)
            have := Post.list (ws := []) S (q1.append q2) h.2
            have e : (us.toList ++ zs.toList).toArray = us ++ zs := by simp
            rw [e] at this; exact this
          | _ => exact h.elim
        | _ => exact h.elim
      | _ => exact h.elim
    | _ => exact h.elim
  | Sub =>
    obtain ⟨i, j, t, u, rfl, rfl, h⟩ := ii_is h ra rb
    exact P.sub_int (Post.now S (rv_int _ _) h _)
  | Mult =>
    obtain ⟨i, j, t, u, rfl, rfl, h⟩ := ii_is h ra rb
    exact P.mul_int (Post.now S (rv_int _ _) h.2 _) (h.1.elim (fun q => IntMulOk.of_left (intBits_small q)) fun q => IntMulOk.of_right (intBits_small q))
  | FloorDiv =>
    obtain ⟨i, j, t, u, rfl, rfl, h⟩ := ii_is h ra rb
    refine floordiv_int h.1.1 (Post.now S (rv_int _ _) h.2 _) (.inl (PyProof.noPylong_of_log2 ?_))
    have : j.natAbs.log2 < 60 := (Nat.log2_lt (by have := h.1.1; omega)).mpr h.1.2
    omega
  | Mod =>
    obtain ⟨i, j, t, u, rfl, rfl, h⟩ := ii_is h ra rb
    exact PyProof.Rows.mod_int' h.1 (Post.now S (rv_int _ _) h.2 _)
  | Pow =>
    obtain ⟨i, j, t, u, rfl, rfl, h⟩ := ii_is h ra rb
    refine pow_int h.1.2.1 ?_ (Post.now S (rv_int _ _) h.2 _)
    have := intBits_small (Nat.lt_trans h.1.1 (by decide))
    have h3 := h.1.2.2
    have h2 := h.1.2.1
    have h4 : (Builtin.Int.intBits i : Int) * j ≤ 64 * 1000 := by
      refine Int.le_trans (Int.mul_le_mul_of_nonneg_right (c := j) (Int.ofNat_le.mpr this) h2) ?_
      show (64 : Int) * j ≤ 64 * 1000
      omega
    exact Int.le_trans h4 (by decide)
  | BitAnd =>
    obtain ⟨i, j, t, u, rfl, rfl, h⟩ := ii_is h ra rb
    exact and_int (Post.now S (rv_int _ _) h _)
  | BitOr =>
    obtain ⟨i, j, t, u, rfl, rfl, h⟩ := ii_is h ra rb
    exact or_int (Post.now S (rv_int _ _) h _)
  | BitXor =>
    obtain ⟨i, j, t, u, rfl, rfl, h⟩ := ii_is h ra rb
    exact xor_int (Post.now S (rv_int _ _) h _)
  | RShift =>
    obtain ⟨i, j, t, u, rfl, rfl, h⟩ := ii_is h ra rb
    exact rshift_int h.1 (Post.now S (rv_int _ _) h.2 _)
  | _ => exact h.elim
end
end Sw

namespace Sw
open PySem PySem.Calls PyProof.Rows

noncomputable def boolR : Mu → Heap → Bool → Value → Prop := fun _ _ b x => x = .bool b

section
variable {prog : Program} {w : World} {B : Heap} {A : Around} {s : Shared} {μ : Mu} {σ : SH} {n : Nat}

theorem wp_weak {α : Type} {t : Sem α} {Q : α → Shared → Prop} {E : Value → Shared → Prop} (h : wpAny (model prog w) A t Q noE s) : wpAny (model prog w) A t Q E s := wpAny_mono h (fun _ _ x => x) fun _ _ x => x.elim

theorem rv_ne_none {h : Heap} {a : V} {x : Value} (r : Rv μ h a x) : (x == Value.none) = isNoneV a ∧ plainIs x .none = true := by
  cases a with
  | none => unfold Rv at r; subst r; exact ⟨rfl, rfl⟩
  | bool b => unfold Rv at r; subst r; exact ⟨rfl, rfl⟩
  | int i => unfold Rv at r; obtain ⟨t, rfl⟩ := r; exact ⟨rfl, rfl⟩
  | str i => unfold Rv at r; obtain ⟨t, rfl⟩ := r; exact ⟨rfl, rfl⟩
  | tup vs => unfold Rv at r; obtain ⟨a, n, xs, rfl, _⟩ := r; exact ⟨rfl, rfl⟩
  | ref k => unfold Rv at r; obtain ⟨p, _, rfl⟩ := r; exact ⟨rfl, rfl⟩

theorem St.notModules (S : St prog w B μ σ s.heap) (hB : (B.get? sysModules).isSome = true) {k : Nat} {a : Addr} (e : μ[k]? = some (a, none)) : (a == sysModules) = false := by
  rw [beq_eq_false_iff_ne]
  rintro rfl
  have z := S.new sysModules (mem_fp (b := sysModules) e (by simp [ow]))
  rw [z] at hB; cases hB

theorem in_room {d : PyData} {es : List PyData} (d1 : d.depth ≤ 64) (hu : A.units + 8 * n + 100 < cLine) : A.units + 1 + min (PyData.depthAll es) d.depth < cLine := by
  have : min (PyData.depthAll es) d.depth ≤ d.depth := Nat.min_le_right _ _
  omega
theorem cmpW_snd {op : CmpOp} {a b : V} {x y : Value} {K : Bool → Prop} (hR : Room n A) (hB : (B.get? sysModules).isSome = true) (h : cmpW op a b σ K) (S : St prog w B μ σ s.heap) (ra : Rv μ s.heap a x) (rb : Rv μ s.heap b y) :
    wpAny (model prog w) A (compareOp op x y) (Post prog w B boolR [] μ s fun c σ' => K c ∧ σ' = σ) noE s := by
  have hu := hR.units
  have fin : ∀ (c : Bool), K c → Post prog w B boolR [] μ s (fun c σ' => K c ∧ σ' = σ) (.bool c) s := fun c h => Post.here S rfl ⟨h, rfl⟩
  cases op with
  | Lt => obtain ⟨i, j, t, u, rfl, rfl, h⟩ := ii_is h ra rb; exact P.lt_int (fin _ h)
  | LtE => obtain ⟨i, j, t, u, rfl, rfl, h⟩ := ii_is h ra rb; exact P.le_int (fin _ h)
  | Gt => obtain ⟨i, j, t, u, rfl, rfl, h⟩ := ii_is h ra rb; exact P.gt_int (fin _ h)
  | GtE => obtain ⟨i, j, t, u, rfl, rfl, h⟩ := ii_is h ra rb; exact P.ge_int (fin _ h)
  | Eq =>
    obtain ⟨d, h1, h⟩ := oP_is h
    obtain ⟨e, h2, h⟩ := oP_is h
    obtain ⟨hc, h⟩ := ck.and h
    obtain ⟨as, r1⟩ := reads_of S ra h1
    obtain ⟨bs, r2⟩ := reads_of S rb h2
    exact eq_dataH r1 r2 (sh3_ok hc.1) (sh3_ok hc.2) (by omega) (fin _ h)
  | NotEq =>
    obtain ⟨d, h1, h⟩ := oP_is h
    obtain ⟨e, h2, h⟩ := oP_is h
    obtain ⟨hc, h⟩ := ck.and h
    obtain ⟨as, r1⟩ := reads_of S ra h1
    obtain ⟨bs, r2⟩ := reads_of S rb h2
    exact ne_dataH r1 r2 (sh3_ok hc.1) (sh3_ok hc.2) (by omega) (fin _ h)
  | Is => cases b with
    | none =>
      unfold Rv at rb
      subst rb
      obtain ⟨e1, e2⟩ := rv_ne_none ra
      exact wpAny_is_plain e2 (e1 ▸ fin _ h)
    | _ => exact h.elim
  | IsNot => cases b with
    | none =>
      unfold Rv at rb
      subst rb
      obtain ⟨e1, e2⟩ := rv_ne_none ra
      exact wpAny_isNot_plain e2 (e1 ▸ fin _ h)
    | _ => exact h.elim
  | In => cases b with
    | tup ys =>
      obtain ⟨d, h1, h⟩ := oP_is h
      obtain ⟨es, h2, h⟩ := oP_is h
      obtain ⟨hc, h⟩ := ck.and h
      obtain ⟨as, r1⟩ := reads_py ra h1
      obtain ⟨bs, r2⟩ := reads_py (d := .tuple es) rb (by unfold V.py; rw [h2]; rfl)
      have c1 := SeqAt.canLay_of_shaped (sh3_ok hc.1)
      have c2 := SeqAt.canLay_of_shaped (sh3_ok hc.2)
      have d1 := SeqAt.depth_of_shaped (sh3_ok hc.1)
      exact SeqAt.in_tuple_reads r2 r1 (by simpa [PyData.canLay0] using c2) c1 (in_room d1 hu) (fin _ h)
    | ref k =>
      obtain ⟨o, e, h⟩ := oP_is h
      cases o with
      | dict kvs =>
        obtain ⟨d, hd, rfl, D⟩ := rv_dict S rb e
        exact in_V (by omega) D ra h.1 (S.notModules hB hd) fun tk => Post.now S rfl ⟨h.2, rfl⟩ tk
      | _ => exact h.elim
    | _ => exact h.elim
  | NotIn => cases b with
    | tup ys =>
      obtain ⟨d, h1, h⟩ := oP_is h
      obtain ⟨es, h2, h⟩ := oP_is h
      obtain ⟨hc, h⟩ := ck.and h
      obtain ⟨as, r1⟩ := reads_py ra h1
      obtain ⟨bs, r2⟩ := reads_py (d := .tuple es) rb (by unfold V.py; rw [h2]; rfl)
      have c1 := SeqAt.canLay_of_shaped (sh3_ok hc.1)
      have c2 := SeqAt.canLay_of_shaped (sh3_ok hc.2)
      have d1 := SeqAt.depth_of_shaped (sh3_ok hc.1)
      exact SeqAt.notIn_tuple_reads r2 r1 (by simpa [PyData.canLay0] using c2) c1 (in_room d1 hu) (fin _ h)
    | _ => exact h.elim

theorem at_arr {h : Heap} {vs : List V} {xs : Array Value} (r : Rvs μ h vs xs.toList) {j : Nat} {v : V} (e : vs[j]? = some v) : ∃ y, xs[j]? = some y ∧ Rv μ h v y := by
  obtain ⟨y, h1, h2⟩ := r.at j v e
  exact ⟨y, by rw [← h1]; obtain ⟨l⟩ := xs; simp, h2⟩

theorem seqIdx_list {i : Int} {m j : Nat} (e : seqIndex? i m = some j) (h : 0 ≤ i) : j = i.toNat ∧ j < m := by
  simp only [seqIndex?, if_neg (show ¬ i < 0 by omega)] at e
  split at e
  · rename_i q
    rw [Bool.and_eq_true, decide_eq_true_eq, decide_eq_true_eq] at q
    cases e
    exact ⟨rfl, by omega⟩
  · cases e
theorem seqIdx_neg {i : Int} {m j : Nat} (e : seqIndex? i m = some j) (h : i < 0) : (j : Int) = i + m ∧ j < m := by
  simp only [seqIndex?, if_pos h] at e
  split at e
  · rename_i q
    rw [Bool.and_eq_true, decide_eq_true_eq, decide_eq_true_eq] at q
    cases e
    constructor <;> omega
  · cases e

theorem sub_plain (i : Expr) (o v : Value) (h : ∀ a b c d, i ≠ .Slice a b c d) : subscripted i false o v = operate [o, v] (getItem o v) := by
  cases i <;> first | rfl | exact absurd rfl (h _ _ _ _)

theorem getI_snd {value slice : Expr} {o i : V} {x y : Value} {K : KE} (hR : Room n A) (hsl : ∀ a b c d, slice ≠ .Slice a b c d) (h : getI o i σ K) (S : St prog w B μ σ s.heap) (ro : Rv μ s.heap o x) (ri : Rv μ s.heap i y) :
    wpAny (model prog w) A (subscriptTail value slice x y) (Post prog w B Rv [] μ s K) noE s := by
  have hu := hR.units
  have hs : ∀ o v, subscripted slice false o v = operate [o, v] (getItem o v) := fun o v => sub_plain _ _ _ hsl
  cases o with
  | tup vs => cases i with
    | int j =>
      obtain ⟨hc, h⟩ := ck.and h
      obtain ⟨h1, h2⟩ := fit64_ok hc
      obtain ⟨k, hk, h⟩ := oP_is h
      obtain ⟨v, hv, h⟩ := oP_is h
      unfold Rv at ro ri
      obtain ⟨a, m, xs, rfl, g, q⟩ := ro
      obtain ⟨t, rfl⟩ := ri
      obtain ⟨z, hz, rz⟩ := at_arr q hv
      have hl : xs.size = vs.length := by rw [← q.length]; simp
      exact tail_any (T := "tuple") ⟨_, g, rfl⟩ F.slot_tuple_getitem.lookup (P.getItem_tuple g h1 h2 (by rw [hl]; exact hk) hz (Post.here S rz h)) (hs _ _)
    | _ => exact h.elim
  | ref k =>
    obtain ⟨o, e, h⟩ := oP_is h
    cases o with
    | list vs => cases i with
      | int j =>
        obtain ⟨a, m, xs, _, rfl, g, q⟩ := rv_list S ro e
        obtain ⟨hc, h⟩ := ck.and h
        obtain ⟨h1, h2⟩ := fit64_ok hc
        obtain ⟨k, hk, h3⟩ := oP_is h
        obtain ⟨v, hv, h4⟩ := oP_is h3
        clear h h3
        unfold Rv at ri
        obtain ⟨t, rfl⟩ := ri
        obtain ⟨z, hz, rz⟩ := at_arr q hv
        have hl : xs.size = vs.length := by rw [← q.length]; simp
        by_cases h0 : 0 ≤ j
        · obtain ⟨e1, e2⟩ := seqIdx_list hk h0
          subst e1
          exact tail_any (T := "list") ⟨_, g, rfl⟩ slot_list_getitem.lookup (wpAny_getItem_list ⟨_, g, rfl, _, rfl⟩ h0 h2 hz (Post.here S rz h4)) (hs _ _)
        · obtain ⟨e1, e2⟩ := seqIdx_neg hk (by omega)
          exact tail_any (T := "list") ⟨_, g, rfl⟩ slot_list_getitem.lookup (wpAny_getItem_list_neg ⟨_, g, rfl, _, rfl⟩ (by omega) (by rw [hl]; omega) h1 (by rw [hl, ← e1]; simpa using hz) (Post.here S rz h4)) (hs _ _)
      | _ => exact h.elim
    | dict kvs =>
      obtain ⟨d, hd, rfl, D⟩ := rv_dict S ro e
      obtain ⟨v, hv, h2⟩ := oP_is h.2
      exact tail_any (T := "dict") D.typeIs slot_dict_getitem.lookup (getItem_V (by omega) D ri h.1 hv fun z tk rz => Post.now S rz h2 tk) (hs _ _)
    | _ => exact h.elim
  | _ => exact h.elim
end
end Sw

namespace Sw
open PySem PySem.Calls PyProof.Rows

section
variable {prog : Program} {w : World} {B : Heap} {A : Around} {E : Value → Shared → Prop} {s : Shared} {μ : Mu} {σ : SH} {n : Nat}

theorem slice_to {sl : Addr} {b n : Nat} {u : Tok} {Q : Int × Int × Nat → Shared → Prop} (hs : s.heap.IsSliceOf sl .none (.int b u) .none) (hb : b ≤ n) (h : Q (0, 1, b) s) :
    wpAny (model prog w) A (Builtin.Slice.sliceApplied (.ref sl) (pure (n : Int))) Q E s := by
  obtain ⟨os, hos, hcs, hds⟩ := id hs
  have e1 : Builtin.Slice.sliceAdjust none (some (b : Int)) 1 (n : Int) = (0, (b : Int)) := by
    unfold Builtin.Slice.sliceAdjust
    have h1 : ¬ ((1 : Int) < 0) := by omega
    have h2 : ¬ ((b : Int) < 0) := by omega
    simp only [h1, h2, if_false]
    congr 1
    omega
  have e2 : Builtin.Slice.slicePlaces 0 (b : Int) 1 = b := by
    unfold Builtin.Slice.slicePlaces
    have h1 : (1 : Int) > 0 := by omega
    simp only [h1, if_true, Int.ediv_one]
    split <;> omega
  unfold Builtin.Slice.sliceApplied Builtin.Slice.sliceFields
  refine wpAny_bind (wpAny_bind (wpAny_field hos hds (x := .none) rfl (wpAny_bind (wpAny_field hos hds (x := .int b u) rfl (wpAny_bind (wpAny_field hos hds (x := .none) rfl (wpAny_pure ?_)))))))
  refine wpAny_bind (slicePart_none ?_)
  show wpAny _ _ (if ((1 : Int) == 0) = true then _ else _) _ _ s
  rw [if_neg (by decide)]
  refine wpAny_bind (slicePart_none (wpAny_bind (slicePart_int (wpAny_bind (wpAny_pure ?_)))))
  show wpAny _ _ (match Builtin.Slice.sliceAdjust none (some (b : Int)) 1 (n : Int) with | (lo, hi) => pure (lo, (1 : Int), Builtin.Slice.slicePlaces lo hi 1)) _ _ s
  rw [e1]
  show wpAny _ _ (pure ((0 : Int), (1 : Int), Builtin.Slice.slicePlaces 0 (b : Int) 1)) _ _ s
  rw [e2]
  exact wpAny_pure h

theorem pick_to (xs : Array Value) (b : Nat) (_hb : b ≤ xs.size) : ((List.range b).filterMap fun (k : Nat) => xs[((0 : Int) + (k : Int) * 1).toNat]?).toArray = (xs.toList.take b).toArray := by
  have e : (fun (k : Nat) => xs[((0 : Int) + (k : Int) * 1).toNat]?) = fun k => xs[0 + k]? := by
    funext k
    have : ((0 : Int) + (k : Int) * 1).toNat = 0 + k := by omega
    rw [this]
  rw [e]
  have := pick_run xs 0 b
  rw [List.filterMap_map] at this
  have e2 : ((fun x => xs[x]?) ∘ fun x => 0 + x) = fun k => xs[0 + k]? := rfl
  rw [e2] at this
  rw [this, List.drop_zero]

theorem getItem_tuple_to {t sl : Addr} {items : Array Value} {b : Nat} {u : Tok} {Q : Value → Shared → Prop} (ht : IsTup s.heap t items) (hs : s.heap.IsSliceOf sl .none (.int b u) .none) (hb : b < items.size)
    (h : Q (.ref s.heap.objs.size) { s with heap := s.heap.push { cls := .type "tuple", data := .seq (items.toList.take b).toArray } })
    (hsz : items.size ≤ sizeLine) : wpAny (model prog w) A (getItem (.ref t) (.ref sl)) Q E s := by
  have hdrop : sizeOk (.seq (items.toList.take b).toArray) := by
    show (items.toList.take b).toArray.size ≤ sizeLine
    rw [List.size_toArray, List.length_take, Array.length_toList]
    omega
  obtain ⟨os, hos, hcs, hds⟩ := id hs
  have hTs : s.TypeIs (.ref sl) "slice" := ⟨os, hos, hcs⟩
  unfold getItem
  try with_reducible refine wpAny_holding ?_
  first | refine wpAny_bind (wpAny_pure ?_) | skip
  refine wpAny_bind (wpAny_sequenceKey ht.typeIs (by decide) ?_)
  refine wpAny_bind (wpAny_callSpecial?_slot (name := Str.ofString "__getitem__") ht.typeIs slot_tuple_getitem
    (wpAny_call_entry slot_tuple_getitem ht.typeIs entry_tuple_getitem ?_ (args_tuple_getitem _ _)))
  show wpAny _ _ (Builtin.Tuple.tupleItemsOf (.ref t) >>= _) _ _ s
  refine wpAny_bind (tupleItemsOf_ ht ?_)
  refine wpAny_bind (wpAny_typeOf hTs ?_)
  rw [if_pos (by decide)]
  refine wpAny_bind (slice_to hs (Nat.le_of_lt hb) ?_)
  have hno : ¬ (((0 : Int) == 0 && (1 : Int) == 1 && b == items.size) = true) := by
    have : (b == items.size) = false := by rw [beq_eq_false_iff_ne]; omega
    rw [this]; simp
  show wpAny _ _ (if ((0 : Int) == 0 && (1 : Int) == 1 && b == items.size) = true then _ else _) _ _ s
  rw [if_neg hno, pick_to items b (Nat.le_of_lt hb)]
  first
    | exact wpAny_bind (m := Builtin.Tuple.tupleExact _) (wpAny_newObj_type (wpAny_pure ⟨_, rfl, wpAny_pure h⟩) hdrop)
    | exact wpAny_bind (m := Builtin.Tuple.tupleExact _) (wpAny_newObj_type (wpAny_bind (wpAny_pure (wpAny_pure ⟨_, rfl, wpAny_pure h⟩))) hdrop)
    | exact wpAny_bind (wpAny_bind (m := Builtin.Tuple.tupleExact _) (wpAny_newObj_type (wpAny_pure (wpAny_pure ⟨_, rfl, wpAny_pure h⟩)) hdrop))
    | exact wpAny_bind (wpAny_bind (m := Builtin.Tuple.tupleExact _) (wpAny_newObj_type (wpAny_pure ⟨_, rfl, wpAny_pure h⟩) hdrop))

noncomputable def partR : Mu → Heap → Option Int → Value → Prop := fun _ _ p x => IsPart x p

/-- the tail of a slice's subscript: the slice object is made, the part is taken -/
theorem sliceW_snd {value : Expr} {p : Pos} {lower upper : Option Expr} {o : V} {x l u : Value} {lo hi : Option Int} {K : KE} (h : sliceW o lo hi σ K) (S : St prog w B μ σ s.heap) (ro : Rv μ s.heap o x)
    (hl : IsPart l lo) (hh : IsPart u hi) :
    wpAny (model prog w) A (subscriptTail value (.Slice lower upper none p) x (.ref s.heap.objs.size)) (Post prog w B Rv [] μ s K) noE { s with heap := s.heap.push { cls := .type "slice", data := .fields #[l, u, .none] } } := by
  cases o with
  | tup vs =>
    have S1 := S.push { cls := .type "slice", data := .fields #[l, u, .none] }
    have X1 := ext_push [] μ s.heap { cls := .type "slice", data := .fields #[l, u, .none] }
    have r1 := ro.up X1.up
    unfold Rv at r1
    obtain ⟨a, m, xs, rfl, g, q⟩ := r1
    have hlen : xs.size = vs.length := by rw [← q.length]; simp
    cases lo with
    | none => cases hi with
      | none => exact h.elim
      | some b =>
        obtain ⟨⟨h1, h2, h3⟩, h⟩ := ck.and h
        cases hl
        cases hh with
        | int _ t =>
          obtain ⟨b', rfl⟩ := Int.eq_ofNat_of_zero_le (Int.le_trans (by decide) h1)
          refine tail_any (T := "tuple") (ops := [.ref s.heap.objs.size, .ref a]) ⟨_, g, rfl⟩ slot_tuple_getitem.lookup (getItem_tuple_to ⟨_, g, rfl, _, rfl⟩ (Heap.IsSliceOf.new ..) (by rw [hlen]; omega) ?_ (by rw [hlen, sizeLine_eq]; omega)) rfl
          have := Post.tuple (s := { s with heap := s.heap.push { cls := .type "slice", data := .fields #[.none, .int (b' : Int) t, .none] } }) (ws := []) S1 (q.take b') h
          exact Post.back (s := s) (s₁ := { s with heap := s.heap.push _ }) X1 ⟨rfl, rfl, rfl⟩ this
    | some b => cases hi with
      | some _ => exact h.elim
      | none =>
        obtain ⟨⟨h1, h2, h3⟩, h⟩ := ck.and h
        cases hh
        cases hl with
        | int _ t =>
          obtain ⟨b', rfl⟩ := Int.eq_ofNat_of_zero_le (Int.le_trans (by decide) h1)
          refine tail_any (T := "tuple") (ops := [.ref s.heap.objs.size, .ref a]) ⟨_, g, rfl⟩ slot_tuple_getitem.lookup (getItem_tuple_from ⟨_, g, rfl, _, rfl⟩ (Heap.IsSliceOf.new ..) (by omega) (by rw [hlen]; omega) ?_ (by rw [hlen, sizeLine_eq]; omega)) rfl
          have := Post.tuple (s := { s with heap := s.heap.push { cls := .type "slice", data := .fields #[.int (b' : Int) t, .none, .none] } }) (ws := []) S1 (q.drop b') h
          exact Post.back (s := s) (s₁ := { s with heap := s.heap.push _ }) X1 ⟨rfl, rfl, rfl⟩ this
  | _ => exact h.elim

/-- the facts of a class of the text that the stores and reads of its instances ask -/
inductive ClsOk (B : Heap) (C : Addr) : Prop
  | mk {nm q N bs sn sub ab col dd k0 k1 k2 k3 k5 newId mN} (c1 : B.get? C = some (excClassObj nm q C N bs [.type "object"] true sn sub ab col dd k0 k1 k2 k3 k5 newId)) (c2 : B.Ns N mN)
      (c3 : mN "__setattr__" = none) (c4 : mN "__getattribute__" = none) (c5 : ∀ x, clsNames.contains x = true → mN x = none)
theorem cls_free : ∀ x, clsNames.contains x = true → typeLookup (.type "object") x = pure none := by
  intro x hx
  have h : (clsNames.all fun x => match fastLookup "object" x with | some none => true | _ => false) = true := by kernel_rfl
  exact am_miss_of_fast (List.all_eq_true.mp h x (List.contains_iff_mem.mp hx))

end
end Sw

namespace Sw
open PySem PySem.Calls PyProof.Rows

theorem lookup_putA (x : Str) (v : V) : ∀ (as : List (Str × V)) (y : Str), (putA x v as).lookup y = if y = x then some v else as.lookup y
  | [], y => by
    unfold putA
    by_cases h : y = x
    · subst h; simp [List.lookup]
    · have : (y == x) = false := by simpa using h
      simp [List.lookup, this, h]
  | p :: r, y => by
    unfold putA
    by_cases h1 : (p.1 == x) = true
    · rw [if_pos h1]
      have e1 : p.1 = x := by simpa using h1
      by_cases h : y = x
      · subst h; simp [List.lookup]
      · have h2 : (y == x) = false := by simpa using h
        obtain ⟨k, u⟩ := p
        dsimp only at e1
        subst e1
        simp [List.lookup, h2, h]
    · rw [if_neg h1]
      obtain ⟨k, u⟩ := p
      have e1 : ¬ k = x := by simpa using h1
      by_cases hk : y = k
      · subst hk
        have : ¬ y = x := e1
        simp [List.lookup, this]
      · have h2 : (y == k) = false := by simpa using hk
        simp only [List.lookup, h2]
        exact lookup_putA x v r y

structure Gr (prog : Program) (w : World) (B : Heap) (mg mb : Str → Option Value) : Prop where
  g : B.Ns mainGlobals mg
  b : B.Ns builtinsNs mb
  nolim : B.NoLimit
  mods : (B.get? sysModules).isSome = true
  talk : ClsOk B 122
  book : ClsOk B 144
  free : ∀ f ∈ (["len", "min", "max", "sum", "sorted", "list", "range", "enumerate"] : List Str), mg f = none ∧ mb f = bootBuiltins f
theorem Gr.cls {prog : Program} {w : World} {B : Heap} {mg mb : Str → Option Value} (g : Gr prog w B mg mb) {C : Addr} (h : C = 122 ∨ C = 144) : ClsOk B C := by
  rcases h with rfl | rfl
  · exact g.talk
  · exact g.book

section
variable {prog : Program} {w : World} {B : Heap} {mg mb : Str → Option Value} {A : Around} {E : Value → Shared → Prop} {s : Shared} {μ : Mu} {σ : SH} {n : Nat}

theorem rv_handed {h : Heap} {v : V} {x : Value} (r : Rv μ h v x) : handedOut x = pure x := by
  cases v with
  | none => unfold Rv at r; subst r; rfl
  | bool b => unfold Rv at r; subst r; rfl
  | int i => unfold Rv at r; obtain ⟨t, rfl⟩ := r; rfl
  | str i => unfold Rv at r; obtain ⟨t, rfl⟩ := r; rfl
  | tup vs => unfold Rv at r; obtain ⟨a, n, xs, rfl, _⟩ := r; rfl
  | ref k => unfold Rv at r; obtain ⟨p, _, rfl⟩ := r; rfl

theorem rv_inst {h : Heap} (S : St prog w B μ σ h) {k : Nat} {C : Addr} {as : List (Str × V)} {x : Value} (r : Rv μ h (.ref k) x) (e : σ[k]? = some (.inst C as)) :
    ∃ a dx mA, μ[k]? = some (a, some dx) ∧ x = .ref a ∧ (C = 122 ∨ C = 144) ∧ IsInst h a C dx mA ∧ ∀ x v, as.lookup x = some v → ∃ y, mA x = some y ∧ Rv μ h v y := by
  unfold Rv at r
  obtain ⟨p, hp, rfl⟩ := r
  obtain ⟨p', hp', r⟩ := S.obj k _ e
  obtain rfl := Option.some.inj (hp.symm.trans hp')
  obtain ⟨hC, dx, mA, e2, h1, h2⟩ := r
  obtain ⟨a, d⟩ := p
  dsimp only at e2
  subst e2
  exact ⟨a, dx, mA, hp, rfl, hC, h1, h2⟩
theorem IsInst.inst {h : Heap} {a C dx : Addr} {mA : Str → Option Value} (I : IsInst h a C dx mA) : h.Inst a C mA := by
  obtain ⟨o, h1, h2, h3, h4⟩ := I.obj
  exact ⟨o, h1, h2, h3, .inr ⟨dx, h4, I.ne, I.ns⟩⟩

theorem getA_snd {o : V} {x : Value} {a : Str} {K : KE} (G : Gr prog w B mg mb) (h : getA o a σ K) (S : St prog w B μ σ s.heap) (ro : Rv μ s.heap o x) :
    wpAny (model prog w) A (getAttr x a true) (Post prog w B Rv [] μ s K) noE s := by
  cases o with
  | ref k =>
    obtain ⟨o, e, h⟩ := oP_is h
    cases o with
    | inst C as =>
      obtain ⟨v, hv, h⟩ := oP_is h
      obtain ⟨b, dx, mA, hm, rfl, hC, I, ha⟩ := rv_inst S ro e
      obtain ⟨y, hy, ry⟩ := ha a v hv
      have hin : clsNames.contains a = true := List.contains_iff_mem.mpr (I.within a (by rw [hy]; exact fun q => nomatch q))
      obtain ⟨c1, c2, c3, c4, c5⟩ := G.cls hC
      have hf := Post.now (ws := []) S ry h
      obtain ⟨hp, g, d, t, os⟩ := s
      exact load_attr (S.keep _ _ c1) (c2.keeps S.keep) c4 (c5 a hin) (cls_free a hin) I.inst hy (rv_handed ry) (hf (t + 1))
    | _ => exact h.elim
  | _ => exact h.elim

theorem setA_snd {o v : V} {x y : Value} {a : Str} {K : SH → Prop} (G : Gr prog w B mg mb) (h : setA o a v σ K) (S : St prog w B μ σ s.heap) (ro : Rv μ s.heap o x) (rv : Rv μ s.heap v y) :
    wpAny (model prog w) A (setAttr x a y) (Post prog w B (eqR (α := Unit)) [] μ s fun _ σ' => K σ') noE s := by
  cases o with
  | ref k =>
    obtain ⟨o, e, h⟩ := oP_is h
    cases o with
    | inst C as =>
      obtain ⟨hin, h⟩ := ck.and h
      obtain ⟨b, dx, mA, hm, rfl, hC, I, ha⟩ := rv_inst S ro e
      obtain ⟨c1, c2, c3, c4, c5⟩ := G.cls hC
      obtain ⟨ob, hb, hbc, hbn, hbd⟩ := I.obj
      have hne : b ≠ C := by
        rintro rfl
        have z := S.new b (mem_fp (b := b) hm (by simp [ow]))
        rw [z] at c1; cases c1
      have fin : ∀ h' tk', h'.Inst b C (fun z => if z = a then some y else mA z) →
          (∀ b' o, b' ≠ b → (∀ o₀ dx, s.heap.get? b = some o₀ → o₀.dict = some dx → b' ≠ dx) → s.heap.get? b' = some o → h'.get? b' = some o) →
          (∀ o₀, s.heap.get? b = some o₀ → ∃ o₁, h'.get? b = some o₁ ∧ o₁.cls = o₀.cls ∧ o₁.data = o₀.data ∧ o₁.slots = o₀.slots ∧ ∀ dx, o₀.dict = some dx → o₁.dict = some dx) →
          Post prog w B (eqR (α := Unit)) [] μ s (fun _ σ' => K σ') () { s with heap := h', toks := tk' } := by
        intro h' tk' I' hk hsame
        obtain ⟨o₁, e1, e2, e3, _, e5⟩ := hsame ob hb
        have hd1 := e5 dx hbd
        have k' : ∀ b' o, s.heap.get? b' = some o → b' ∉ ow (b, some dx) → h'.get? b' = some o := fun b' o ho hno => by
          have n1 : b' ≠ b := fun q => hno (by simp [ow, q])
          have n2 : b' ≠ dx := fun q => hno (by simp [ow, q])
          exact hk b' o n1 (fun o₀ d' q1 q2 => by
            obtain rfl := Option.some.inj (hb.symm.trans q1)
            obtain rfl := Option.some.inj (hbd.symm.trans q2)
            exact n2) ho
        obtain ⟨oD, esD, epD, hoD, hdD, _⟩ := id I.ns
        have u : Up μ s.heap μ h' := ⟨fun t xs m ht => k' t _ ht (fun q => by
          have q' : t = b ∨ t = dx := by simpa [ow] using q
          rcases q' with rfl | rfl
          · rw [hb] at ht; cases ht; cases hbc
          · rw [hoD] at ht; cases ht; cases hdD), fun _ _ e => e⟩
        have I2 : IsInst h' b C dx (fun z => if z = a then some y else mA z) := by
          obtain ⟨o', f1, f2, f3, f4⟩ := I'
          obtain rfl := Option.some.inj (e1.symm.trans f1)
          refine ⟨⟨o₁, e1, f2, f3, hd1⟩, I.ne, ?_, fun z hz => ?_⟩
          · rcases f4 with ⟨f5, _⟩ | ⟨d', f5, _, f6⟩
            · rw [hd1] at f5; cases f5
            · obtain rfl := Option.some.inj (hd1.symm.trans f5); exact f6
          · by_cases hza : z = a
            · subst hza; exact List.contains_iff_mem.mp hin
            · rw [if_neg hza] at hz; exact I.within z hz
        obtain ⟨S', X⟩ := S.turn (o := .inst C (putA a v as)) hm ⟨hC, dx, _, rfl, I2, fun z u' hz => by
          rw [lookup_putA] at hz
          by_cases hza : z = a
          · rw [if_pos hza] at hz
            cases hz
            exact ⟨y, if_pos hza, rv.up u⟩
          · rw [if_neg hza] at hz
            obtain ⟨y', q1, q2⟩ := ha z u' hz
            exact ⟨y', by rw [if_neg hza]; exact q1, q2.up u⟩⟩ k' u (fun b' hb' ob' hob' => by
          have q' : b' = b ∨ b' = dx := by simpa [ow] using hb'
          rcases q' with rfl | rfl
          · exact ⟨_, e1⟩
          · obtain ⟨oX, _, _, hX, _⟩ := I2.ns; exact ⟨oX, hX⟩)
        exact ⟨(), _, μ, h, S', X, rfl, ⟨rfl, rfl, rfl⟩⟩
      obtain ⟨hp, g, d, t, os⟩ := s
      exact store_attr PySem.F.store_object (S.keep _ _ c1) (c2.keeps S.keep) c3 (c5 a hin) (cls_free a hin) hne I.inst fin I.within (by decide)
    | _ => exact h.elim
  | _ => exact h.elim
end
end Sw

namespace Sw
open PySem PySem.Calls PyProof.Rows

section
variable {prog : Program} {w : World} {B : Heap} {mg mb : Str → Option Value} {A : Around} {E : Value → Shared → Prop} {s : Shared} {μ : Mu} {σ : SH} {n : Nat}

theorem St.turn1 (S : St prog w B μ σ s.heap) {h' : Heap} {k : Nat} {o : SO} {a : Addr} (hp : μ[k]? = some (a, none)) (r : RO prog w μ h' o (a, none)) (hs : Heap.SameBut a s.heap h') (u : Up μ s.heap μ h')
    (hl : ∃ ob', h'.get? a = some ob') : St prog w B μ (σ.set k o) h' ∧ Ext [] μ s.heap μ h' := by
  refine S.turn hp r (fun b ob e hn => ?_) u fun b hb _ _ => ?_
  · exact (hs.2 b (fun q => hn (by simp [ow, q]))).trans e
  · have : b = a := by simpa [ow] using hb
    subst this; exact hl

theorem Rvs.set {μ : Mu} {h : Heap} : ∀ {vs : List V} {xs : List Value}, Rvs μ h vs xs → ∀ {v : V} {y : Value} (n : Nat), Rv μ h v y → Rvs μ h (vs.set n v) (xs.set n y)
  | [], _, r, v, y, n, _ => by unfold Rvs at r; subst r; exact Rvs.nil
  | u :: us, xs, r, v, y, n, q => by
    unfold Rvs at r
    obtain ⟨z, zs, rfl, g, r⟩ := r
    cases n with
    | zero => exact Rvs.cons q r
    | succ n => exact Rvs.cons g (Rvs.set r n q)
/-- an item of a list is set, the object told -/
theorem setItem_listAt {l : Addr} {items : Array Value} {n : Nat} {k : Int} {t : Tok} {v : Value} {Q : Unit → Shared → Prop} (ho : s.heap.get? l = some { cls := .type "list", data := .seq items n })
    (h0 : 0 ≤ k) (hfit : k < 2 ^ 63) (hn : k < items.size) (hQ : Q () { s with heap := s.heap.update l (Obj.mapSeq (·.setIfInBounds k.toNat v)) }) :
    wpAny (model prog w) A (setItem (.ref l) (.int k t) v) Q E s := by
  have hT : s.TypeIs (.ref l) "list" := ⟨_, ho, rfl⟩
  unfold setItem
  try with_reducible refine wpAny_holding ?_
  first | refine wpAny_bind (wpAny_pure ?_) | skip
  refine wpAny_bind (wpAny_sequenceKey hT (by decide) ?_)
  refine wpAny_bind (wpAny_callSpecial?_slot (name := Str.ofString "__setitem__") hT slot_list_setitem
    (wpAny_call_entry slot_list_setitem hT entry_list_setitem ?_ (args_list_setitem _ _ _)))
  show wpAny _ _ (Builtin.List.listSubscript? (.int k t) >>= _) _ _ s
  refine wpAny_bind (wpAny_listSubscript_int (fitsIndex_of h0 hfit) ?_)
  clear hfit
  obtain ⟨j, rfl⟩ := Int.eq_ofNat_of_zero_le h0
  have hj : j < items.size := by omega
  have hx' : items[j]? = some items[j] := Array.getElem?_eq_getElem hj
  show wpAny _ _ ((seqItemAt l j >>= fun r => pure (r.map (j, ·))) >>= _) _ _ s
  refine wpAny_bind (wpAny_bind (wpAny_seqItemAt ho rfl (wpAny_pure ?_)))
  rw [hx']
  show wpAny _ _ (setSeqItemAt l j v >>= _) _ _ s
  refine wpAny_bind (wpAny_setSeqItemAt ho rfl ?_)
  first
    | exact wpAny_bind (wpAny_pure (wpAny_pure ⟨.none, rfl, wpAny_pure hQ⟩))
    | exact wpAny_pure ⟨.none, rfl, wpAny_pure hQ⟩

theorem setI_snd {o i v : V} {x y z : Value} {K : SH → Prop} (hR : Room n A) (h : setI o i v σ K) (S : St prog w B μ σ s.heap) (ro : Rv μ s.heap o x) (ri : Rv μ s.heap i y) (rv : Rv μ s.heap v z) :
    wpAny (model prog w) A (setItem x y z) (Post prog w B (eqR (α := Unit)) [] μ s fun _ σ' => K σ') noE s := by
  have hu := hR.units
  cases o with
  | ref k =>
    obtain ⟨o, e, h⟩ := oP_is h
    cases o with
    | dict kvs =>
      obtain ⟨d, hd, rfl, D⟩ := rv_dict S ro e
      refine setItem_V (by omega) D ri rv h.1.1 h.1.2 fun h' tk D' hs u => ?_
      obtain ⟨S', X⟩ := S.turn1 (o := .dict (putD i v kvs)) hd ⟨rfl, D'⟩ hs u (let ⟨_, _, q, _⟩ := D'.ex; ⟨_, q⟩)
      exact ⟨(), _, μ, h.2, S', X, rfl, ⟨rfl, rfl, rfl⟩⟩
    | list vs => cases i with
      | int j =>
        obtain ⟨⟨h0, h1, h2⟩, h⟩ := h
        obtain ⟨a, m, xs, hm, rfl, g, q⟩ := rv_list S ro e
        unfold Rv at ri
        obtain ⟨t, rfl⟩ := ri
        obtain ⟨j, rfl⟩ := Int.eq_ofNat_of_zero_le h0
        have hl : xs.size = vs.length := by rw [← q.length]; simp
        refine setItem_listAt g h0 (by omega) (by rw [hl]; omega) ?_
        have hs : Heap.SameBut a s.heap (s.heap.update a (Obj.mapSeq (·.setIfInBounds j z))) := Heap.SameBut.update ..
        have u : Up μ s.heap μ (s.heap.update a (Obj.mapSeq (·.setIfInBounds j z))) := up_same g (list_ne xs m) hs
        have g' := Heap.get?_update_self (Obj.mapSeq fun x : Array Value => x.setIfInBounds j z) g rfl
        obtain ⟨S', X⟩ := S.turn1 (o := .list (vs.set j v)) hm ⟨rfl, _, xs.setIfInBounds j z, g', by rw [Array.toList_setIfInBounds]; exact ((Rvs.set q j rv).up u)⟩ hs u ⟨_, g'⟩
        exact ⟨(), _, μ, h, S', X, rfl, ⟨rfl, rfl, rfl⟩⟩
      | _ => exact h.elim
    | _ => exact h.elim
  | _ => exact h.elim

theorem DictV.len {h : Heap} {d : Addr} {kvs : List (V × V)} (x : DictV prog w μ h d kvs) : ∃ n es, h.get? d = some { cls := .type "dict", data := .dict es n } ∧ es.size = kvs.length := by
  obtain ⟨m, es, h1, h2⟩ := x.ex
  exact ⟨m, es, h1, by rw [← h2.length]; simp⟩

theorem delI_snd {o i : V} {x y : Value} {K : SH → Prop} (hR : Room n A) (h : delI o i σ K) (S : St prog w B μ σ s.heap) (ro : Rv μ s.heap o x) (ri : Rv μ s.heap i y) :
    wpAny (model prog w) A (delItem x y) (Post prog w B (eqR (α := Unit)) [] μ s fun _ σ' => K σ') noE s := by
  have hu := hR.units
  cases o with
  | ref k =>
    obtain ⟨o, e, h⟩ := oP_is h
    cases o with
    | dict kvs =>
      obtain ⟨d, hd, rfl, D⟩ := rv_dict S ro e
      refine delItem_V (by omega) D ri h.1.1 (Nat.le_trans h.1.2.2 (by decide)) h.1.2.1 fun h' tk D' hs u => ?_
      obtain ⟨S', X⟩ := S.turn1 (o := .dict (delD i kvs)) hd ⟨rfl, D'⟩ hs u (let ⟨_, _, q, _⟩ := D'.ex; ⟨_, q⟩)
      exact ⟨(), _, μ, h.2, S', X, rfl, ⟨rfl, rfl, rfl⟩⟩
    | _ => exact h.elim
  | _ => exact h.elim

noncomputable def mtType : Mt → String
  | .append => "list"
  | .pop => "list"
  | .get => "dict"
noncomputable def mtId : Mt → String
  | .append => "list.append"
  | .pop => "list.pop"
  | .get => "dict.get"

theorem meth_is {P : Prop} {p : Prop} [Decidable p] {a b : Option Mt} {i : Mt} (h : (if p then a else b) = some i) (ha : p → a = some i → P) (hb : b = some i → P) : P := by
  by_cases q : p
  · rw [if_pos q] at h; exact ha q h
  · rw [if_neg q] at h; exact hb h
theorem mtO_snd {k : Nat} {o : SO} {m : Str} {x : Value} {i : Mt} (e : σ[k]? = some o) (h : mtO o m = some i) (S : St prog w B μ σ s.heap) (ro : Rv μ s.heap (.ref k) x) :
    PlainAttrs (mtType i) ∧ Slot (mtType i) m (mtId i) ∧ typeOf (.builtin (mtId i)) = pure (.type "method_descriptor") ∧ s.TypeIs x (mtType i) ∧ ∀ a, x = .ref a → ∃ ob, s.heap.get? a = some ob ∧ ob.dict = none := by
  cases o with
  | list xs =>
    obtain ⟨a, j, us, _, rfl, g, q⟩ := rv_list S ro e
    have hT : s.TypeIs (.ref a) "list" := ⟨_, g, rfl⟩
    have hN : ∀ b, Value.ref a = .ref b → ∃ ob, s.heap.get? b = some ob ∧ ob.dict = none := fun b e => by cases e; exact ⟨_, g, rfl⟩
    refine meth_is h (fun hm q => ?_) fun h => meth_is h (fun hm q => ?_) no_none
    · subst hm; cases q; exact ⟨F.plainAttrs_list, F.slot_list_append, F.type_list_append, hT, hN⟩
    · subst hm; cases q; exact ⟨F.plainAttrs_list, F.slot_list_pop, F.type_list_pop, hT, hN⟩
  | dict kvs =>
    obtain ⟨a, hd, rfl, D⟩ := rv_dict S ro e
    refine meth_is h (fun hm q => ?_) no_none
    subst hm
    cases q
    exact ⟨F.plainAttrs_dict, F.slot_dict_get, F.type_dict_get, D.typeIs, fun b e => by cases e; obtain ⟨_, _, q, _⟩ := D.ex; exact ⟨_, q, rfl⟩⟩
  | _ => exact no_none h

theorem meets_get_V {d : Addr} {kvs : List (V × V)} {k : V} {key : Value} (hd : (d == sysModules) = false) (more : List Value) (dv : Value) (hm : (more = [] ∧ dv = .none) ∨ more = [dv]) :
    MeetsIn prog w (Builtin.«dict.get» ⟨.ref d :: key :: more, []⟩) (fun A R s => A.units + 2 < cLine ∧ ∃ μ, DictV prog w μ s.heap d kvs ∧ Rv μ s.heap k key ∧ KeyFits k kvs ∧
      (look k kvs = none → ∀ tk, R (.ok (.ret dv)) { s with toks := tk }) ∧ (∀ v y, look k kvs = some v → Rv μ s.heap v y → ∀ tk, R (.ok (.ret y)) { s with toks := tk })) :=
  .of_wp fun A R s h => by
    obtain ⟨hu, μ, x, hk, hf, h0, h1⟩ := h
    rcases hm with ⟨rfl, rfl⟩ | rfl
    all_goals
      show wpAny _ _ (dictGet d key >>= _) _ _ s
      refine wpAny_bind (dictGet_V (by show A.units + 1 + 1 < cLine; omega) x hk hf (fun e tk => ?_) fun v y e ry tk => ?_)
      · show wpAny _ _ (Builtin.Dict.missed d key >>= _) _ _ _
        exact wpAny_bind (wpAny_missed_other hd (wpAny_pure ⟨_, rfl, h0 e tk⟩))
      · exact wpAny_pure ⟨y, rfl, h1 v y e ry tk⟩

theorem rvs_one {h : Heap} {v : V} {xs : List Value} (r : Rvs μ h [v] xs) : ∃ y, xs = [y] ∧ Rv μ h v y := by
  unfold Rvs at r
  obtain ⟨y, ys, rfl, ry, rs⟩ := r
  unfold Rvs at rs
  subst rs
  exact ⟨y, rfl, ry⟩
theorem rvs_two {h : Heap} {u v : V} {xs : List Value} (r : Rvs μ h [u, v] xs) : ∃ y z, xs = [y, z] ∧ Rv μ h u y ∧ Rv μ h v z := by
  unfold Rvs at r
  obtain ⟨y, ys, rfl, ry, rs⟩ := r
  obtain ⟨z, rfl, rz⟩ := rvs_one rs
  exact ⟨y, z, rfl, ry, rz⟩
theorem appO_snd {k : Nat} {o : SO} {vs : List V} {x : Value} {xs : List Value} {K : KE} (e : σ[k]? = some o) (h : appO k o vs σ K) (S : St prog w B μ σ s.heap) (ro : Rv μ s.heap (.ref k) x) (rs : Rvs μ s.heap vs xs) :
    wpAny (model prog w) A (call (.builtin "list.append") (x :: xs)) (Post prog w B Rv [] μ s K) noE s := by
  cases o with
  | list us =>
    obtain ⟨v, rfl, h⟩ := one_prop h
    obtain ⟨a, j, zs, hm, rfl, g, q⟩ := rv_list S ro e
    obtain ⟨y, rfl, ry⟩ := rvs_one rs
    have hl : zs.size = us.length := by rw [← q.length]; simp
    refine call_meets F.slot_list_append ⟨_, g, rfl⟩ F.entry_list_append (F.args_list_append_2 _ _) (list_append a zs j y (by rw [hl, sizeLine_eq]; have := h.1; omega)) ⟨g, ?_⟩
    have hs : Heap.SameBut a s.heap (s.heap.update a (Obj.mapSeq fun x => x.push y)) := Heap.SameBut.update ..
    have u : Up μ s.heap μ (s.heap.update a (Obj.mapSeq fun x => x.push y)) := up_same g (list_ne zs j) hs
    have g' := Heap.get?_update_self (Obj.mapSeq fun x : Array Value => x.push y) g rfl
    obtain ⟨S', X⟩ := S.turn1 (o := .list (us ++ [v])) hm ⟨rfl, _, zs.push y, g', by rw [Array.toList_push]; exact ((q.append (Rvs.cons ry Rvs.nil)).up u)⟩ hs u ⟨_, g'⟩
    exact ⟨.none, _, μ, h.2, S', X, rv_none, ⟨rfl, rfl, rfl⟩⟩
  | _ => exact h.elim
theorem popO_snd {k : Nat} {o : SO} {vs : List V} {x : Value} {xs : List Value} {K : KE} (e : σ[k]? = some o) (h : popO k o vs σ K) (S : St prog w B μ σ s.heap) (ro : Rv μ s.heap (.ref k) x) (rs : Rvs μ s.heap vs xs) :
    wpAny (model prog w) A (call (.builtin "list.pop") (x :: xs)) (Post prog w B Rv [] μ s K) noE s := by
  cases o with
  | list us =>
    obtain ⟨v, rfl, h⟩ := one_prop h
    obtain ⟨y, rfl, ry⟩ := rvs_one rs
    cases v with
    | int i => cases us with
      | nil => exact h.elim
      | cons v r =>
        obtain ⟨rfl, h⟩ := ck.and h
        obtain ⟨a, j, zs, hm, rfl, g, q⟩ := rv_list S ro e
        unfold Rv at ry
        obtain ⟨t, rfl⟩ := ry
        have hl : zs.size = (v :: r).length := by rw [← q.length]; simp
        obtain ⟨z, hz, rz⟩ := at_arr q (j := 0) (v := v) rfl
        refine call_meets F.slot_list_pop ⟨_, g, rfl⟩ F.entry_list_pop (F.args_list_pop_2 _ _) (MeetsSeq.list_pop_at a zs j 0 t 0 z (by decide) (by simp [seqIndex?, hl]) hz (by rw [hl, sizeLine_eq]; have := h.1; omega)) ?_
        refine ⟨g, ?_⟩
        have hs : Heap.SameBut a s.heap (s.heap.update a (Obj.mapSeq fun xs => xs.eraseIdxIfInBounds 0)) := Heap.SameBut.update ..
        have u : Up μ s.heap μ (s.heap.update a (Obj.mapSeq fun xs => xs.eraseIdxIfInBounds 0)) := up_same g (list_ne zs j) hs
        have g' := Heap.get?_update_self (Obj.mapSeq fun xs : Array Value => xs.eraseIdxIfInBounds 0) g rfl
        have q' : Rvs μ s.heap r (zs.eraseIdxIfInBounds 0).toList := by
          unfold Rvs at q
          obtain ⟨z1, zr, e1, _, q⟩ := q
          obtain ⟨l⟩ := zs
          have e2 : l = z1 :: zr := e1
          subst e2
          simpa using q
        obtain ⟨S', X⟩ := S.turn1 (o := .list r) hm ⟨rfl, _, _, g', q'.up u⟩ hs u ⟨_, g'⟩
        exact ⟨v, _, μ, h.2, S', X, rz.up u, ⟨rfl, rfl, rfl⟩⟩
    | _ => exact h.elim
  | _ => exact h.elim
theorem dgO_snd {k : Nat} {o : SO} {vs : List V} {x : Value} {xs : List Value} {K : KE} (hR : Room n A) (hB : (B.get? sysModules).isSome = true) (e : σ[k]? = some o) (h : dgO o vs σ K) (S : St prog w B μ σ s.heap) (ro : Rv μ s.heap (.ref k) x) (rs : Rvs μ s.heap vs xs) :
    wpAny (model prog w) A (call (.builtin "dict.get") (x :: xs)) (Post prog w B Rv [] μ s K) noE s := by
  have hu := hR.units
  cases o with
  | dict kvs =>
    obtain ⟨d, hd, rfl, D⟩ := rv_dict S ro e
    have fin : ∀ {y : Value} {v dv : V} {j : V} (K1 : K ((look j kvs).getD dv) σ), (look j kvs).getD dv = v → Rv μ s.heap v y → ∀ tk, Post prog w B Rv [] μ s K y { s with toks := tk } := fun K1 q ry tk => Post.now S ry (q ▸ K1) tk
    cases vs with
    | nil => exact h.elim
    | cons j r => cases r with
      | nil =>
        obtain ⟨y, rfl, ry⟩ := rvs_one rs
        exact call_meetsIn F.slot_dict_get D.typeIs F.entry_dict_get (F.args_dict_get_2 _ _) (meets_get_V (S.notModules hB hd) [] .none (.inl ⟨rfl, rfl⟩)) ⟨by omega, μ, D, ry, h.1, fun q tk => fin h.2 (by rw [q]; rfl) rv_none tk, fun v z q rz tk => fin h.2 (by rw [q]; rfl) rz tk⟩
      | cons d2 r => cases r with
        | nil =>
          obtain ⟨y, y2, rfl, ry, ry2⟩ := rvs_two rs
          exact call_meetsIn F.slot_dict_get D.typeIs F.entry_dict_get (F.args_dict_get_3 _ _ _) (meets_get_V (S.notModules hB hd) [y2] y2 (.inr rfl)) ⟨by omega, μ, D, ry, h.1, fun q tk => fin h.2 (by rw [q]; rfl) ry2 tk, fun v z q rz tk => fin h.2 (by rw [q]; rfl) rz tk⟩
        | cons _ _ => exact h.elim
  | _ => exact h.elim
theorem methW_snd {o : V} {i : Mt} {vs : List V} {x : Value} {xs : List Value} {K : KE} (hR : Room n A) (hB : (B.get? sysModules).isSome = true) (h : methW i o vs σ K) (S : St prog w B μ σ s.heap) (ro : Rv μ s.heap o x) (rs : Rvs μ s.heap vs xs) :
    wpAny (model prog w) A (call (.builtin (mtId i)) (x :: xs)) (Post prog w B Rv [] μ s K) noE s := by
  cases o with
  | ref k =>
    obtain ⟨o, e, h⟩ := oP_is h
    cases i with
    | append => exact appO_snd e h S ro rs
    | pop => exact popO_snd e h S ro rs
    | get => exact dgO_snd hR hB e h S ro rs
  | _ => exact h.elim
end
end Sw

namespace Sw
open PySem PySem.Calls PyProof.Rows PySem.W

section
variable {prog : Program} {w : World} {B : Heap} {mg mb : Str → Option Value} {A : Around} {E : Value → Shared → Prop} {s : Shared} {μ : Mu} {σ : SH} {n : Nat}

theorem rv_intsOf {h : Heap} : ∀ {vs : List V} {xs : List Value} {ns : List Int}, Rvs μ h vs xs → intsOf vs = some ns → IntsAre xs ns
  | [], xs, ns, r, e => by unfold Rvs at r; subst r; simp [intsOf] at e; subst e; exact .nil
  | v :: vs, xs, ns, r, e => by
    unfold Rvs at r
    obtain ⟨y, ys, rfl, g, q⟩ := r
    cases v with
    | int i =>
      simp only [intsOf, Option.map_eq_some_iff] at e
      obtain ⟨ms, h1, rfl⟩ := e
      unfold Rv at g
      obtain ⟨t, rfl⟩ := g
      exact .cons i t (rv_intsOf q h1)
    | _ => simp [intsOf] at e
theorem ints_rvs {h : Heap} : ∀ {xs : List Value} {ns : List Int}, IntsAre xs ns → Rvs μ h (ns.map .int) xs := fun q => by
  induction q with
  | nil => unfold Rvs; rfl
  | cons i t r ih => exact Rvs.cons (rv_int i t) ih
theorem ints_len : ∀ {xs : List Value} {ns : List Int}, IntsAre xs ns → xs.length = ns.length := fun q => by
  induction q with
  | nil => rfl
  | cons i t r ih => exact congrArg Nat.succ ih
theorem intsOf_len : ∀ {vs : List V} {ns : List Int}, intsOf vs = some ns → vs.length = ns.length
  | [], ns, e => by simp [intsOf] at e; subst e; rfl
  | v :: vs, ns, e => by
    cases v with
    | int i =>
      simp only [intsOf, Option.map_eq_some_iff] at e
      obtain ⟨ms, h1, rfl⟩ := e
      simp [intsOf_len h1]
    | _ => simp [intsOf] at e

theorem keep_post {K : V → SH → Prop} {v : V} {x : Value} (S : St prog w B μ σ s.heap) {h' : Heap} (tk : Nat) (k : ∀ b o, s.heap.get? b = some o → h'.get? b = some o) (r : Rv μ h' v x) (hK : K v σ) :
    Post prog w B Rv [] μ s K x { s with heap := h', toks := tk } :=
  ⟨v, σ, μ, hK, S.kept k, ext_of_keep [] μ k, r, ⟨rfl, rfl, rfl⟩⟩

theorem len_dict_V {d : Addr} {kvs : List (V × V)} {Q : Value → Shared → Prop} (hd : (d == sysModules) = false) (x : DictV prog w μ s.heap d kvs) (hz : (kvs.length : Int) < 2 ^ 63)
    (h : ∀ t tk, Q (.int kvs.length t) { s with toks := tk }) : wpAny (model prog w) A (call (.builtin "len") [.ref d]) Q E s := by
  obtain ⟨m, es, ho, hsz⟩ := x.len
  have hT := x.typeIs
  refine call_function_entry kind_len plain_len entry_len (args_len1 _) ?_
  unfold Builtin.«len»
  refine wpAny_bind (m := oneArg "len" _) (wpAny_pure ?_)
  refine wpAny_bind (m := callSpecial? (.ref d) (Str.ofString "__len__")) (wpAny_callSpecial?_slot (name := Str.ofString "__len__") hT F.slot_dict_len
    (wpAny_call_entry F.slot_dict_len hT F.entry_dict_len ?_ (F.args_dict_len_1 _)))
  show wpAny _ _ (dictSize d >>= _) _ _ s
  unfold dictSize
  refine wpAny_bind (wpAny_bind (wpAny_dictEntries ho rfl (wpAny_pure ?_)))
  show wpAny _ _ (Builtin.Dict.pendingCount d >>= _) _ _ s
  refine wpAny_bind (wpAny_pendingCount_other hd ?_)
  refine wpAny_ret_mkInt ?_
  rw [hsz]
  have e0 : ((kvs.length : Nat) : Int) + ((0 : Nat) : Int) = kvs.length := by omega
  rw [e0]
  refine wpAny_bind (wpAny_holding (wpAny_pure ?_))
  refine wpAny_bind (wpAny_letGo ?_)
  show wpAny _ _ (if ((kvs.length : Nat) : Int) < 0 then _ else _) _ _ _
  rw [if_neg (by omega)]
  show wpAny _ _ (if ((kvs.length : Nat) : Int) ≥ 2 ^ 63 then _ else _) _ _ _
  rw [if_neg (by omega)]
  exact wpAny_bind (wpAny_mkInt (wpAny_pure ⟨_, rfl, h _ _⟩))

theorem sum_ints_any {l : Addr} {items : Array Value} {ns : List Int} {Q : Value → Shared → Prop} (hh : A.handled = none) (hl : s.heap.IsList l items) (hi : IntsAre items.toList ns)
    (h : ∀ h' tk t', (∀ b o, s.heap.get? b = some o → h'.get? b = some o) → Q (.int ns.sum t') { s with heap := h', toks := tk }) :
    wpAny (model prog w) A (call (.builtin "sum") [.ref l]) Q E s := by
  have conv : ∀ {xs : List Value} {ns : List Int}, IntsAre xs ns → ∃ ps : List (Int × Tok), xs = ps.map (fun p => Value.int p.1 p.2) ∧ ps.map (·.1) = ns := by
    intro xs ns r
    induction r with
    | nil => exact ⟨[], rfl, rfl⟩
    | cons i t _ ih => obtain ⟨ps, h1, h2⟩ := ih; exact ⟨(i, t) :: ps, by simp [h1], by simp [h2]⟩
  obtain ⟨ps, h1, h2⟩ := conv hi
  have e : items = intItems ps.toArray := by
    apply Array.ext'
    rw [h1]; simp [intItems]
  subst e
  refine call_sum_walkG (iter_intList hl fun s₂ e st hfp hlI => ?_)
  subst e
  refine ⟨_, _, _, _, _, _, numAt ps.toArray, rfl, Walks.list (A := A.in1) hh _ l hlI (intItems ps.toArray), st, hfp, (fun _ _ => intItems_at), fun h' tk t' hk => ?_⟩
  have z := h h' tk t' (old_kept hk)
  have key : ∀ (ps : List (Int × Tok)) (j : Nat), j ≤ ps.length → preSum (numAt ps.toArray) j = ((ps.take j).map (·.1)).sum := by
    intro ps j
    induction j with
    | zero => intro _; simp [preSum]
    | succ j ih =>
      intro hj
      rw [preSum, ih (by omega), List.take_add_one, List.map_append, List.sum_append]
      congr 1
      have : ps[j]? = some ps[j] := List.getElem?_eq_getElem (by omega)
      rw [this]
      simp [numAt, this]
  have : preSum (numAt ps.toArray) (intItems ps.toArray).size = ns.sum := by
    rw [show (intItems ps.toArray).size = ps.length by simp [intItems], key ps ps.length (Nat.le_refl _), List.take_length, h2]
  rw [this]
  exact z

/-- sorted, of whatever yields ints -/
theorem sorted_from {x : Value} {ns : List Int} {Q : Value → Shared → Prop} (h64 : ns.length < 64)
    (hc : ∀ Q' : List Value → Shared → Prop, (∀ h' tk vs, (∀ b o, s.heap.get? b = some o → h'.get? b = some o) → IntsAre vs ns → Q' vs { s with heap := h', toks := tk }) → wpAny (model prog w) A.in1 (collect x) Q' E s)
    (h : ∀ h' tk a n (out : Array Value) (ns' : List Int), (∀ b o, s.heap.get? b = some o → h'.get? b = some o) → s.heap.get? a = none → h'.get? a = some { cls := .type "list", data := .seq out n } → IntsAre out.toList ns' → ns'.Perm ns → ns'.Pairwise (· ≤ ·) →
      Q (.ref a) { s with heap := h', toks := tk }) :
    wpAny (model prog w) A (call (.builtin "sorted") [x]) Q E s := by
  refine Calls.call_function_entry kind_sorted plain_sorted entry_sorted (args_sorted1 _) ?_
  unfold Builtin.«sorted»
  refine wpAny_bind (m := checkCount "sorted" 1 1 _) (wpAny_pure ?_)
  refine wpAny_bind (hc _ fun h' tk vs hk hI => ?_)
  refine wpAny_bind (wpAny_newList ?_ (by rw [ints_len hI, sizeLine_eq]; omega))
  have hoL : (h'.push (seqObj "list" vs.toArray 0)).get? h'.objs.size = some (seqObj "list" vs.toArray 0) := Heap.get?_push_size _ rfl
  have hfresh : s.heap.get? h'.objs.size = none := by
    cases q : s.heap.get? h'.objs.size with
    | none => rfl
    | some o => exact absurd (Heap.lt_size (hk _ _ q)) (Nat.lt_irrefl _)
  refine wpAny_bind (wpAny_holding (wpAny_call_entry (s := { s with heap := h'.push (seqObj "list" vs.toArray 0), toks := tk }) slot_list_sort ⟨_, hoL, rfl⟩ entry_list_sort (list_sort_tree hoL hI (by rw [ints_len hI]; exact h64) fun out ns' a1 a2 a3 => ⟨_, rfl, ?_⟩) (args_list_sort _)))
  refine wpAny_pure ⟨_, rfl, ?_⟩
  have e1 : ((((h'.push (seqObj "list" vs.toArray 0)).update h'.objs.size (Obj.mapSeq fun _ => #[])).push (seqObj "tuple" vs.toArray 0)).push (seqObj "list" #[] 0)).get? h'.objs.size = some (seqObj "list" #[] (if (#[] : Array Value).size == vs.toArray.size then 0 else 0 + 1)) :=
    Heap.get?_push_of_some _ (Heap.get?_push_of_some _ (get?_update_seq hoL (fun _ => #[])))
  have e2 := get?_update_seq e1 (fun _ => out)
  refine h _ tk h'.objs.size _ out ns' (fun b o hb => ?_) hfresh e2 a1 a2 a3
  have hb' := hk b o hb
  have hne : b ≠ h'.objs.size := Nat.ne_of_lt (Heap.lt_size hb')
  refine (Heap.get?_update_other _ _ (Ne.symm hne)).trans ?_
  exact Heap.get?_push_of_some _ (Heap.get?_push_of_some _ ((Heap.get?_update_other _ _ (Ne.symm hne)).trans (Heap.get?_push_of_some _ hb')))

theorem collect_kdl {T : String} {r d : Addr} {m : Nat} {P : Nat → Value → Prop} {OK : Heap → Prop} (K : KdlSrc prog w T r d m P OK) (hh : A.handled = none) (hok : OK s.heap) (hm : m ≤ sizeLine) {Q : List Value → Shared → Prop}
    (hQ : ∀ h' tk acc, (∀ b o, s.heap.get? b = some o → h'.get? b = some o) → ItemsOf P acc m → Q acc.toList { s with heap := h', toks := tk }) : wpAny (model prog w) A (collect (.ref r)) Q E s := by
  unfold collect
  refine wpAny_bind (wpAny_runValue (codeAny_builtin F.entry_proto_collect ?_))
  rw [Around.under_plainId F.plain_proto_collect _]
  show wpAny _ A.in1 (newList [] >>= fun l => again (.builtin "list.__iadd__" ⟨[l, .ref r], []⟩)) _ _ s
  refine wpAny_bind (wpAny_newObj_type ?_)
  refine wpAny_pure ⟨plainId_quiet F.plain_list_iadd _, codeAny_builtin F.entry_list_iadd ?_⟩
  rw [Around.under_plainId F.plain_list_iadd _]
  show wpAny _ A.in1 (Builtin.List.listExtendWith (.ref s.heap.objs.size) (.ref r) (.ref s.heap.objs.size)) _ _ _
  have hS : (s.heap.push { cls := .type "list", data := .seq ([] : List Value).toArray }).get? s.heap.objs.size = some { cls := .type "list", data := .seq #[] 0 } := Heap.get?_push_size _ rfl
  have hlt := K.there _ hok
  have fin : ∀ v s', (v = Value.ref s.heap.objs.size ∧ ∃ h' tk acc c', s' = { s with heap := h', toks := tk } ∧ (∀ b o, s.heap.get? b = some o → h'.get? b = some o) ∧ h'.get? s.heap.objs.size = some { cls := .type "list", dict := none, data := .seq acc c', slots := #[] } ∧ ItemsOf P acc m) →
      wpAny (model prog w) A (match v with
        | Value.ref a => do
          match (← load a).data with
            | Data.seq xs _ => pure xs.toList
            | _ => unsupported "internal:collect"
        | _ => unsupported "internal:collect") Q E s' := by
    rintro v s' ⟨rfl, h', tk, acc, c', rfl, hk, hS', hacc⟩
    show wpAny _ A (load s.heap.objs.size >>= _) _ _ _
    refine wpAny_bind (wpAny_load hS' ?_)
    exact wpAny_pure (hQ h' tk acc hk hacc)
  refine wpAny_mono (kdl_extend (A := A) (R := fun r s' => ∃ v, r = .ok (.ret v) ∧ v = Value.ref s.heap.objs.size ∧ ∃ h' tk acc c', s' = { s with heap := h', toks := tk } ∧ (∀ b o, s.heap.get? b = some o → h'.get? b = some o) ∧ h'.get? s.heap.objs.size = some { cls := .type "list", dict := none, data := .seq acc c', slots := #[] } ∧ ItemsOf P acc m)
    (s := { s with heap := s.heap.push { cls := .type "list", data := .seq ([] : List Value).toArray } }) K hh (K.keep _ _ hok fun b _ o e => Heap.get?_push_of_some _ e) _ (Nat.ne_of_gt hlt.1) (Nat.ne_of_gt hlt.2) (.ref s.heap.objs.size) 0 hS (fun h' tk acc' c' hk hS' hacc =>
      ⟨_, rfl, rfl, h', tk, acc', c', rfl, fun b o e => hk b o (Nat.ne_of_lt (Heap.lt_size e)) (Heap.get?_push_of_some _ e), hS', hacc⟩) hm) (fun fi s' h => ?_) (fun e s' h => ?_)
  · cases fi with
    | done f =>
      obtain ⟨v, e, h⟩ := h
      cases e
      exact fin _ s' h
    | again c' =>
      exact ⟨h.1, codeAny_mono h.2 fun r s₂ q => by
        obtain ⟨v, rfl, q⟩ := q
        exact fin _ s₂ q⟩
  · obtain ⟨v, e', _⟩ := h; cases e'

theorem dictAt_ints {d : Addr} {kvs : List (V × V)} {ns : List Int} (x : DictV prog w μ s.heap d kvs) (hi : intsOf (kvs.map (·.1)) = some ns) :
    ∃ (ps : List (Int × Value)) (ep : Nat), s.heap.DictAt (intKind prog w) d ps ep ∧ ps.map (·.1) = ns := by
  obtain ⟨⟨ep, es, ho, hr⟩, hn⟩ := x
  have conv : ∀ (kvs : List (V × V)) (es : List DictEntry) (ns : List Int), Rk prog w μ s.heap kvs es → intsOf (kvs.map (·.1)) = some ns →
      ∃ ps : List (Int × Value), Pairs (intKind prog w) es ps ∧ ps.map (·.1) = ns ∧ (∀ e ∈ es, ∃ k, (intKind prog w).is k e.key = true ∧ e.hash = (intKind prog w).hash k) ∧ kvs.map (·.1) = ns.map .int := by
    intro kvs
    induction kvs with
    | nil => intro es ns r e; simp [Rk] at r; subst r; simp [intsOf] at e; subst e; exact ⟨[], .nil, rfl, (fun _ h => nomatch h), rfl⟩
    | cons p ps ih =>
      intro es ns r e
      obtain ⟨en, q, rfl, ⟨a1, a2, a3⟩, r⟩ := r
      rw [List.map_cons] at e
      obtain ⟨pk, pv⟩ := p
      cases pk with
      | int i =>
        simp only [intsOf, Option.map_eq_some_iff] at e
        obtain ⟨ms, h1, rfl⟩ := e
        obtain ⟨qs, b1, b2, b3, b4⟩ := ih q ms r h1
        unfold Rv at a1
        obtain ⟨t, ht⟩ := a1
        have his : (intKind prog w).is i en.key = true := by rw [ht]; show (i == i) = true; simp
        refine ⟨(i, en.val) :: qs, .cons his rfl b1, by simp [b2], fun e he => ?_, by simp [b4]⟩
        rcases List.mem_cons.mp he with rfl | he
        · refine ⟨i, his, ?_⟩
          rw [a3]; exact hash1 (v := .int i) rfl
        · exact b3 e he
      | _ => simp [intsOf] at e
  obtain ⟨ps, b1, b2, b3, b4⟩ := conv kvs es.toList ns hr hi
  refine ⟨ps, ep, ⟨_, es, ho, ⟨rfl, rfl, rfl⟩, rfl, fun e he => b3 e (Array.mem_toList_iff.mpr he), b1, ?_⟩, b2⟩
  rw [b2]
  rw [b4] at hn
  exact (List.pairwise_map.mp hn).imp fun h e => h (by rw [e])

theorem ints_items : ∀ (l : List Value) (ps : List (Int × Value)), l.length = ps.length → (∀ (j : Nat) (v : Value), l[j]? = some v → ∃ k x, ps[j]? = some (k, x) ∧ (intKind prog w).is k v = true) → IntsAre l (ps.map (·.1))
  | [], [], _, _ => .nil
  | [], _ :: _, h, _ => nomatch h
  | _ :: _, [], h, _ => nomatch h
  | v :: l, p :: ps, h, k => by
    obtain ⟨i, x, e, hi⟩ := k 0 v rfl
    obtain rfl : p = (i, x) := Option.some.inj e
    obtain ⟨t, rfl⟩ := Value.isInt_shape hi
    exact .cons i t (ints_items l ps (Nat.succ.inj h) fun j v q => k (j + 1) v q)

noncomputable def biV (f : Str) : Value := if f = ("list" : Str) then .type "list" else .builtin f.toString

theorem post_list {ws : List Addr} {K : V → SH → Prop} {vs : List V} (S : St prog w B μ σ s.heap) {h' : Heap} {a : Addr} {m : Nat} {out : Array Value} (tk : Nat) (k : ∀ b o, s.heap.get? b = some o → h'.get? b = some o) (hf : s.heap.get? a = none)
    (g : h'.get? a = some { cls := .type "list", data := .seq out m }) (r : Rvs μ h' vs out.toList) (hK : K (.ref σ.length) (σ ++ [.list vs])) :
    Post prog w B Rv ws μ s K (.ref a) { s with heap := h', toks := tk } := by
  have S1 := S.kept k
  have hn1 : a ∉ fpOf μ := by
    intro hm
    obtain ⟨o, e⟩ := S.live a hm
    rw [hf] at e; cases e
  have hn2 : B.get? a = none := by
    cases q : B.get? a with
    | none => rfl
    | some o => have := S.keep _ _ q; rw [hf] at this; cases this
  have hn : a ∉ fpOf μ ∧ B.get? a = none := ⟨hn1, hn2⟩
  have S2 := S1.grow (o := .list vs) (p := (a, none)) (fun b hb => by
    have : b = a := by simpa [ow] using hb
    subst this; exact ⟨hn.1, hn.2, _, g⟩) (by simp [ow]) ⟨rfl, m, out, g, r⟩
  have e1 : fpOf (μ ++ [(a, none)]) = fpOf μ ++ [a] := by rw [fpOf_append]; simp [fpOf, ow]
  refine ⟨.ref σ.length, _, _, hK, S2, ⟨⟨_, rfl⟩, fun b o e _ _ => k b o e, fun b xs n e => k _ _ e, fun b hb => ?_, fun b o e => ⟨o, k b o e⟩⟩, ?_, ⟨rfl, rfl, rfl⟩⟩
  · rw [e1] at hb
    rcases List.mem_append.mp hb with q | q
    · exact .inl q
    · right
      have : b = a := by simpa using q
      subst this; exact hf
  · unfold Rv
    exact ⟨(a, none), by rw [← S.len, List.getElem?_append_right (Nat.le_refl _), Nat.sub_self]; rfl, rfl⟩

theorem sorted_post {K : V → SH → Prop} {x : Value} {ns : List Int} (S : St prog w B μ σ s.heap) (h64 : ns.length < 64) (hK : ∀ ns', sorted2 ns ns' → K (.ref σ.length) (σ ++ [.list (ns'.map .int)]))
    (hc : ∀ Q' : List Value → Shared → Prop, (∀ h' tk vs, (∀ b o, s.heap.get? b = some o → h'.get? b = some o) → IntsAre vs ns → Q' vs { s with heap := h', toks := tk }) → wpAny (model prog w) A.in1 (collect x) Q' noE s) :
    wpAny (model prog w) A (call (.builtin "sorted") [x]) (Post prog w B Rv [] μ s K) noE s :=
  sorted_from h64 hc fun h' tk a n out ns' k hf g hi hp hs => post_list S tk k hf g (ints_rvs hi) (hK ns' ⟨hp, hs⟩)

theorem lenW_snd {v : V} {x : Value} {K : KE} (hB : (B.get? sysModules).isSome = true) (h : lenW v σ K) (S : St prog w B μ σ s.heap) (r : Rv μ s.heap v x) : wpAny (model prog w) A (call (.builtin "len") [x]) (Post prog w B Rv [] μ s K) noE s := by
  cases v with
  | tup us =>
    unfold Rv at r
    obtain ⟨a, m, zs, rfl, g, q⟩ := r
    have hl : zs.size = us.length := by rw [← q.length]; simp
    refine P.len_tuple g ?_ ?_
    · rw [hl]; have := h.1; omega
    · rw [hl]; exact Post.now S (rv_int _ _) h.2 _
  | ref k =>
    obtain ⟨o, e, h⟩ := oP_is h
    cases o with
    | list us =>
      obtain ⟨a, m, zs, _, rfl, g, q⟩ := rv_list S r e
      have hl : zs.size = us.length := by rw [← q.length]; simp
      refine call_len_list ⟨_, g, rfl, _, rfl⟩ ?_ ?_
      · rw [hl]; have := h.1; omega
      · rw [hl]; exact Post.now S (rv_int _ _) h.2 _
    | dict kvs =>
      obtain ⟨d, hd, rfl, D⟩ := rv_dict S r e
      exact len_dict_V (S.notModules hB hd) D (by have := h.1; omega) fun t tk => Post.now S (rv_int _ _) h.2 tk
    | _ => exact h.elim
  | _ => exact h.elim
theorem sumW_snd {v : V} {x : Value} {K : KE} (hh : A.handled = none) (h : sumW v σ K) (S : St prog w B μ σ s.heap) (r : Rv μ s.heap v x) : wpAny (model prog w) A (call (.builtin "sum") [x]) (Post prog w B Rv [] μ s K) noE s := by
  cases v with
  | ref k =>
    obtain ⟨o, e, h⟩ := oP_is h
    cases o with
    | list us =>
      obtain ⟨ns, hn, h⟩ := oP_is h
      obtain ⟨a, m, zs, _, rfl, g, q⟩ := rv_list S r e
      exact sum_ints_any hh ⟨_, g, rfl, _, rfl⟩ (rv_intsOf q hn) fun h' tk t k => keep_post S tk k (rv_int _ _) h
    | _ => exact h.elim
  | _ => exact h.elim
theorem srt_seq {us : List V} {a m : Nat} {zs : Array Value} {c : String} {K : KE} (hc : c = "list" ∨ c = "tuple") (h : srtI us σ K) (S : St prog w B μ σ s.heap) (g : s.heap.get? a = some { cls := .type c, data := .seq zs m }) (q : Rvs μ s.heap us zs.toList) :
    wpAny (model prog w) A (call (.builtin "sorted") [.ref a]) (Post prog w B Rv [] μ s K) noE s := by
  obtain ⟨ns, hn, h1, h2⟩ := oP_is h
  have hl : zs.size = us.length := by rw [← q.length]; simp
  refine sorted_post S h1 h2 fun Q' hq => wpAny_collect_seq a hc g rfl rfl (fun h' k => ?_) (by rw [hl, intsOf_len hn, sizeLine_eq]; omega)
  exact hq h' s.toks zs.toList k (rv_intsOf q hn)
theorem srtW_snd {v : V} {x : Value} {K : KE} (hh : A.handled = none) (hB : (B.get? sysModules).isSome = true) (h : srtW v σ K) (S : St prog w B μ σ s.heap) (r : Rv μ s.heap v x) : wpAny (model prog w) A (call (.builtin "sorted") [x]) (Post prog w B Rv [] μ s K) noE s := by
  cases v with
  | tup us =>
    unfold Rv at r
    obtain ⟨a, m, zs, rfl, g, q⟩ := r
    exact srt_seq (.inr rfl) h S g q
  | ref k =>
    obtain ⟨o, e, h⟩ := oP_is h
    cases o with
    | list us =>
      obtain ⟨a, m, zs, _, rfl, g, q⟩ := rv_list S r e
      exact srt_seq (.inl rfl) h S g q
    | dict kvs =>
      obtain ⟨ns, hn, h1, h2⟩ := oP_is h
      obtain ⟨d, hd, rfl, D⟩ := rv_dict S r e
      obtain ⟨ps, ep, hat, hps⟩ := dictAt_ints D hn
      have hlen : ps.length = ns.length := by rw [← hps]; simp
      refine sorted_post S h1 h2 fun Q' hq => collect_kdl (A := A.in1) (kdl_dict (knd := intKind prog w) (kvs := ps) (S.notModules hB hd)) (show A.in1.handled = none from hh) hat (by rw [hlen, sizeLine_eq]; omega) fun h' tk acc k hacc => ?_
      refine hq h' tk acc.toList k ?_
      rw [← hps]
      exact ints_items acc.toList ps (by rw [Array.length_toList]; exact hacc.1) fun j v q => hacc.2 j v (by rw [← q]; obtain ⟨l⟩ := acc; simp)
    | _ => exact h.elim
  | _ => exact h.elim
theorem lstW_snd {v : V} {x : Value} {K : KE} (hh : A.handled = none) (hB : (B.get? sysModules).isSome = true) (h : lstW v σ K) (S : St prog w B μ σ s.heap) (r : Rv μ s.heap v x) : wpAny (model prog w) A (call (.type "list") [x]) (Post prog w B Rv [] μ s K) noE s := by
  cases v with
  | ref k =>
    obtain ⟨o, e, h⟩ := oP_is h
    cases o with
    | dict kvs => cases kvs with
      | cons _ _ => exact h.elim
      | nil =>
        obtain ⟨d, hd, rfl, D⟩ := rv_dict S r e
        obtain ⟨ps, ep, hat, hps⟩ := dictAt_ints (ns := []) D rfl
        have hlen : ps.length = 0 := by rw [← List.length_map, hps]; rfl
        refine kdl_call (kdl_dict (knd := intKind prog w) (kvs := ps) (S.notModules hB hd)) hh hat (by rw [hlen]; exact Nat.zero_le _) fun h' tk acc c k g hacc => ?_
        have e0 : acc = #[] := Array.eq_empty_of_size_eq_zero (hacc.1.trans hlen)
        subst e0
        exact post_list S tk k (Heap.get?_none_of_le (Nat.le_refl _)) g Rvs.nil h
    | _ => exact h.elim
  | _ => exact h.elim
theorem ite_is {P : Prop} {p : Prop} [Decidable p] {a b : Prop} (h : if p then a else b) (ha : p → a → P) (hb : b → P) : P := by
  by_cases q : p
  · rw [if_pos q] at h; exact ha q h
  · rw [if_neg q] at h; exact hb h
theorem two_is {vs : List V} {xs : List Value} {h : Heap} {P : V → V → Prop} (hp : two vs P) (rs : Rvs μ h vs xs) : ∃ a b y z, P a b ∧ xs = [y, z] ∧ Rv μ h a y ∧ Rv μ h b z := by
  cases vs with
  | nil => exact hp.elim
  | cons a r =>
    obtain ⟨b, rfl, hp⟩ := one_prop hp
    obtain ⟨y, z, rfl, ry, rz⟩ := rvs_two rs
    exact ⟨a, b, y, z, hp, rfl, ry, rz⟩
theorem one_rvs {vs : List V} {xs : List Value} {h : Heap} {P : V → Prop} (hp : oneP vs P) (rs : Rvs μ h vs xs) : ∃ a y, P a ∧ xs = [y] ∧ Rv μ h a y := by
  obtain ⟨a, rfl, hp⟩ := one_prop hp
  obtain ⟨y, rfl, ry⟩ := rvs_one rs
  exact ⟨a, y, hp, rfl, ry⟩
theorem rv_if {h : Heap} {i j : Int} {t u : Tok} {p : Prop} [Decidable p] : Rv μ h (.int (if p then j else i)) (if p then .int j u else .int i t) := by
  split
  · exact rv_int _ _
  · exact rv_int _ _
theorem biW_snd {f : Str} {vs : List V} {xs : List Value} {K : KE} (hR : Room n A) (hB : (B.get? sysModules).isSome = true) (hb : isBuiltin f = true) (h : biW f vs σ K) (S : St prog w B μ σ s.heap) (rs : Rvs μ s.heap vs xs) :
    wpAny (model prog w) A (call (biV f) xs) (Post prog w B Rv [] μ s K) noE s := by
  have hh := hR.handled
  refine ite_is h (fun hf h => ?_) fun h => ite_is h (fun hf h => ?_) fun h => ite_is h (fun hf h => ?_) fun h => ite_is h (fun hf h => ?_) fun h => ite_is h (fun hf h => ?_) fun h => ite_is h (fun hf h => ?_) False.elim
  all_goals subst hf
  · obtain ⟨a, y, h, rfl, ry⟩ := one_rvs h rs
    exact lenW_snd hB h S ry
  · obtain ⟨a, b, y, z, h, rfl, ry, rz⟩ := two_is h rs
    obtain ⟨i, j, t, u, rfl, rfl, h⟩ := ii_is h ry rz
    exact min_two_ints hh fun h' tk k => keep_post S tk k rv_if h
  · obtain ⟨a, b, y, z, h, rfl, ry, rz⟩ := two_is h rs
    obtain ⟨i, j, t, u, rfl, rfl, h⟩ := ii_is h ry rz
    exact max_two_ints hh fun h' tk k => keep_post S tk k rv_if h
  · obtain ⟨a, y, h, rfl, ry⟩ := one_rvs h rs
    exact sumW_snd hh h S ry
  · obtain ⟨a, y, h, rfl, ry⟩ := one_rvs h rs
    exact srtW_snd hh hB h S ry
  · obtain ⟨a, y, h, rfl, ry⟩ := one_rvs h rs
    exact lstW_snd hh hB h S ry
end
end Sw

namespace Sw
open PySem PySem.Calls PyProof.Rows

structure Fm (B : Heap) (env : Env) (ρ : Loc) (μ : Mu) (h : Heap) : Prop where
  kind : env.scope.kind = .function
  names : env.scope.names = ρ.sc.names
  glo : env.globals = mainGlobals
  blt : env.builtins = builtinsNs
  ns : ∃ m, h.Ns env.locals m ∧ ∀ x v, ρ.get x = some v → ρ.sc.names.lookup x = some .local → ∃ y, m x = some y ∧ Rv μ h v y
  cell : ∀ x, ρ.sc.names.lookup x = some .cell → ∃ c y, env.cells.lookup x = some c ∧ h.IsCell c y ∧ ∀ v, ρ.get x = some v → ∃ z, y = some z ∧ Rv μ h v z
  celln : ∀ x c, env.cells.lookup x = some c → ρ.sc.names.lookup x = some .cell
  kinds : ∀ x v, ρ.get x = some v → isLoc ρ x = true
  apL : env.locals ∉ fpOf μ
  apC : ∀ x c, env.cells.lookup x = some c → c ∉ fpOf μ ∧ c ≠ env.locals
  inj : ∀ x y c, env.cells.lookup x = some c → env.cells.lookup y = some c → x = y
  newL : B.get? env.locals = none
  newC : ∀ x c, env.cells.lookup x = some c → B.get? c = none
  cl : ∀ p ∈ env.cells, env.cells.lookup p.1 = some p.2

noncomputable def wsOf (env : Env) : List Addr := env.locals :: env.cells.map (·.2)

section
variable {prog : Program} {w : World} {B : Heap} {mg mb : Str → Option Value} {A : Around} {E : Value → Shared → Prop} {s : Shared} {μ : Mu} {σ : SH} {n : Nat} {env : Env} {ρ : Loc} {h : Heap}

theorem Fm.kindOf (F : Fm B env ρ μ h) (x : Str) : env.kindOf x = ρ.sc.names.lookup x := by unfold Env.kindOf; rw [F.names]
theorem Fm.notClass (F : Fm B env ρ μ h) : (env.scope.kind == .class || (env.scope.kind == .module && env.locals != env.globals)) = false := by rw [F.kind]; rfl
theorem Fm.block (F : Fm B env ρ μ h) : env.blockKind = .function := by unfold Env.blockKind; rw [F.kind]; rfl
theorem Fm.inter (F : Fm B env ρ μ h) : interactive env = false := by unfold interactive; rw [F.kind]; rfl
theorem Fm.liveL (F : Fm B env ρ μ h) : ∃ o, h.get? env.locals = some o := by
  obtain ⟨_, ⟨o, _, _, e, _⟩, _⟩ := F.ns
  exact ⟨o, e⟩
theorem Fm.liveC (F : Fm B env ρ μ h) {x : Str} {c : Addr} (e : env.cells.lookup x = some c) : ∃ o, h.get? c = some o := by
  obtain ⟨c', y, h1, ⟨o, h2, _⟩, _⟩ := F.cell x (F.celln x c e)
  obtain rfl := Option.some.inj (e.symm.trans h1)
  exact ⟨o, h2⟩

theorem Fm.ext {μ' : Mu} {h' : Heap} (F : Fm B env ρ μ h) (X : Ext [] μ h μ' h') : Fm B env ρ μ' h' where
  kind := F.kind
  names := F.names
  glo := F.glo
  blt := F.blt
  ns := by
    obtain ⟨m, ⟨o, es, ep, e, r⟩, hm⟩ := F.ns
    exact ⟨m, ⟨o, es, ep, X.keep _ _ e F.apL (by simp), r⟩, fun x v hx hl => by obtain ⟨y, h1, h2⟩ := hm x v hx hl; exact ⟨y, h1, h2.up X.up⟩⟩
  cell := fun x hx => by
    obtain ⟨c, y, h1, ⟨o, h2, h3⟩, h4⟩ := F.cell x hx
    exact ⟨c, y, h1, ⟨o, X.keep _ _ h2 (F.apC x c h1).1 (by simp), h3⟩, fun v hv => by obtain ⟨z, q1, q2⟩ := h4 v hv; exact ⟨z, q1, q2.up X.up⟩⟩
  celln := F.celln
  kinds := F.kinds
  apL := fun hm => by
    rcases X.new _ hm with q | q
    · exact F.apL q
    · obtain ⟨o, e⟩ := F.liveL; rw [e] at q; cases q
  apC := fun x c hc => ⟨(fun hm => by
    rcases X.new _ hm with q | q
    · exact (F.apC x c hc).1 q
    · obtain ⟨o, e⟩ := F.liveC hc; rw [e] at q; cases q), (F.apC x c hc).2⟩
  inj := F.inj
  newL := F.newL
  newC := F.newC
  cl := F.cl

theorem get_set (ρ : Loc) (x : Str) (v : V) (y : Str) : (ρ.set x v).get y = if y = x then some v else ρ.get y := lookup_putA x v ρ.vs y

theorem isLoc_cases {ρ : Loc} {x : Str} (h : isLoc ρ x = true) : ρ.sc.names.lookup x = some .local ∨ ρ.sc.names.lookup x = some .cell := by
  unfold isLoc at h
  rw [Bool.or_eq_true] at h
  rcases h with h | h
  · exact .inl (by simpa using h)
  · exact .inr (by simpa using h)

/-- an object that holds a dict or a cell is no tuple -/
theorem up_other {h' : Heap} {d : Addr} {o : Obj} (ho : h.get? d = some o) (hne : ∀ xs n, o.data ≠ .seq xs n) (hs : Heap.SameBut d h h') : Up μ h μ h' :=
  up_same ho (fun xs n e => hne xs n (by rw [e])) hs

theorem St.beside (S : St prog w B μ σ h) {h' : Heap} {d : Addr} (hd : d ∉ fpOf μ) (hB : B.get? d = none) (hs : Heap.SameBut d h h') (u : Up μ h μ h') : St prog w B μ σ h' :=
  S.outside (fun b o e q => (hs.2 b (fun hb => by
    subst hb
    rcases q with q | q
    · exact hd q
    · rw [hB] at q; cases q)).trans e) u

theorem ext_beside {h' : Heap} {d : Addr} {ws : List Addr} (hw : d ∈ ws) {o' : Obj} (hl : h'.get? d = some o') (hs : Heap.SameBut d h h') (u : Up μ h μ h') : Ext ws μ h μ h' :=
  ⟨⟨[], by simp⟩, fun b o e _ hb => (hs.2 b (fun q => hb (q ▸ hw))).trans e, u.tup, fun _ hb => .inl hb, fun b o e => by
    by_cases hb : b = d
    · subst hb; exact ⟨o', hl⟩
    · exact ⟨o, (hs.2 b hb).trans e⟩⟩

theorem mem_lookup {α β : Type} [BEq α] [LawfulBEq α] : ∀ {l : List (α × β)} {x : α} {c : β}, l.lookup x = some c → (x, c) ∈ l
  | [], _, _, e => by cases e
  | p :: r, x, c, e => by
    obtain ⟨a, b⟩ := p
    unfold List.lookup at e
    split at e
    · rename_i q
      cases e
      rw [eq_of_beq q]; exact List.mem_cons_self
    · exact List.mem_cons_of_mem _ (mem_lookup e)

/-- a name is stored -/
theorem store_snd {x : Str} {v : V} {y : Value} (hx : isLoc ρ x = true) (S : St prog w B μ σ s.heap) (F : Fm B env ρ μ s.heap) (rv : Rv μ s.heap v y) {Q : Unit → Shared → Prop}
    (hq : ∀ h' tk, St prog w B μ σ h' → Fm B env (ρ.set x v) μ h' → Ext (wsOf env) μ s.heap μ h' → Q () { s with heap := h', toks := tk }) :
    wpAny (model prog w) A (storeName env x y) Q E s := by
  rcases isLoc_cases hx with hl | hl
  · obtain ⟨m, hn, hm⟩ := F.ns
    refine wpAny_storeName_local (by rw [F.kindOf]; exact hl) hn (fun h' hn' hs => ?_) F.notClass
    obtain ⟨o, es, ep, ho, hd, _⟩ := id hn
    have u : Up μ s.heap μ h' := up_other ho (fun xs k e => by rw [hd] at e; cases e) hs
    obtain ⟨o', _, _, ho', _⟩ := id hn'
    refine hq h' _ (S.beside F.apL F.newL hs u) ?_ (ext_beside List.mem_cons_self ho' hs u)
    refine ⟨F.kind, F.names, F.glo, F.blt, ⟨_, hn', fun z u' hz hlz => ?_⟩, fun z hz => ?_, F.celln, fun z u' hz => ?_, F.apL, F.apC, F.inj, F.newL, F.newC, F.cl⟩
    · rw [get_set] at hz
      by_cases hzx : z = x
      · rw [if_pos hzx] at hz; cases hz; exact ⟨y, if_pos hzx, rv.up u⟩
      · rw [if_neg hzx] at hz
        obtain ⟨y', q1, q2⟩ := hm z u' hz hlz
        exact ⟨y', by rw [if_neg hzx]; exact q1, q2.up u⟩
    · obtain ⟨c, y', h1, ⟨oc, h2, h3⟩, h4⟩ := F.cell z hz
      refine ⟨c, y', h1, ⟨oc, (hs.2 c (F.apC z c h1).2).trans h2, h3⟩, fun u' hu' => ?_⟩
      rw [get_set] at hu'
      have hzx : z ≠ x := by rintro rfl; have hz' : ρ.sc.names.lookup z = some .cell := hz; rw [hl] at hz'; cases hz'
      rw [if_neg hzx] at hu'
      obtain ⟨z', q1, q2⟩ := h4 u' hu'
      exact ⟨z', q1, q2.up u⟩
    · rw [get_set] at hz
      by_cases hzx : z = x
      · subst hzx; exact hx
      · rw [if_neg hzx] at hz; exact F.kinds z u' hz
  · obtain ⟨c, y0, hc, hcell, hold⟩ := F.cell x hl
    refine wpAny_storeName_cell F.kind (by rw [F.kindOf]; exact hl) hc hcell fun h' hc' hs => ?_
    obtain ⟨o, ho, hd⟩ := id hcell
    have u : Up μ s.heap μ h' := up_other ho (fun xs k e => by rw [hd] at e; cases e) hs
    obtain ⟨o', ho', hd'⟩ := id hc'
    obtain ⟨a1, a2⟩ := F.apC x c hc
    refine hq h' s.toks (S.beside a1 (F.newC x c hc) hs u) ?_ (ext_beside (List.mem_cons_of_mem _ (List.mem_map.mpr ⟨(x, c), mem_lookup hc, rfl⟩)) ho' hs u)
    refine ⟨F.kind, F.names, F.glo, F.blt, ?_, fun z hz => ?_, F.celln, fun z u' hz => ?_, F.apL, F.apC, F.inj, F.newL, F.newC, F.cl⟩
    · obtain ⟨m, ⟨oL, es, ep, e, r⟩, hm⟩ := F.ns
      refine ⟨m, ⟨oL, es, ep, (hs.2 _ (Ne.symm a2)).trans e, r⟩, fun z u' hz hlz => ?_⟩
      rw [get_set] at hz
      have hzx : z ≠ x := by rintro rfl; have hlz' : ρ.sc.names.lookup z = some .local := hlz; rw [hl] at hlz'; cases hlz'
      rw [if_neg hzx] at hz
      obtain ⟨y', q1, q2⟩ := hm z u' hz hlz
      exact ⟨y', q1, q2.up u⟩
    · by_cases hzx : z = x
      · subst hzx
        refine ⟨c, some y, hc, hc', fun u' hu' => ?_⟩
        rw [get_set, if_pos rfl] at hu'
        cases hu'
        exact ⟨y, rfl, rv.up u⟩
      · obtain ⟨c', y', h1, ⟨oc, h2, h3⟩, h4⟩ := F.cell z hz
        have hcc : c' ≠ c := fun e => hzx (F.inj z x c (by rw [← e]; exact h1) hc)
        refine ⟨c', y', h1, ⟨oc, (hs.2 c' hcc).trans h2, h3⟩, fun u' hu' => ?_⟩
        rw [get_set, if_neg hzx] at hu'
        obtain ⟨z', q1, q2⟩ := h4 u' hu'
        exact ⟨z', q1, q2.up u⟩
    · rw [get_set] at hz
      by_cases hzx : z = x
      · subst hzx; exact hx
      · rw [if_neg hzx] at hz; exact F.kinds z u' hz

/-- a name is read -/
theorem load_snd {x : Str} {v : V} {K : KE} (S : St prog w B μ σ s.heap) (F : Fm B env ρ μ s.heap) (hx : ρ.get x = some v) (hK : K v σ) :
    wpAny (model prog w) A (loadName env x) (Post prog w B Rv [] μ s K) noE s := by
  rcases isLoc_cases (F.kinds x v hx) with hl | hl
  · obtain ⟨m, hn, hm⟩ := F.ns
    obtain ⟨y, h1, h2⟩ := hm x v hx hl
    exact wpAny_loadName_local F.kind (by rw [F.kindOf]; exact hl) hn h1 (Post.here S h2 hK)
  · obtain ⟨c, y, h1, h2, h3⟩ := F.cell x hl
    obtain ⟨z, rfl, hz⟩ := h3 v hx
    exact wpAny_loadName_cell F.kind (by rw [F.kindOf]; exact hl) h1 h2 (Post.here S hz hK)
end
end Sw

namespace Sw
open PySem PySem.Calls PyProof.Rows

noncomputable def FlR (μ : Mu) (h : Heap) : Fl → Flow → Prop
  | .next, f => f = .next
  | .brk, f => f = .brk
  | .cont, f => f = .cont
  | .ret v, f => ∃ x, f = .ret x ∧ Rv μ h v x
noncomputable def stR (B : Heap) (env : Env) : Mu → Heap → Fl × Loc → Flow → Prop := fun μ h p f => FlR μ h p.1 f ∧ Fm B env p.2 μ h
noncomputable def un (K : KS) : Fl × Loc → SH → Prop := fun p σ => K p.1 p.2 σ

structure Snd (prog : Program) (w : World) (B : Heap) (n : Nat) (r : Rec) : Prop where
  e : ∀ {x : Expr} {A : Around} {env : Env} {s : Shared} {μ : Mu} {σ : SH} {ρ : Loc} {K : KE}, Room n A → r.e x ρ σ K → St prog w B μ σ s.heap → Fm B env ρ μ s.heap →
    wpAny (model prog w) A (eval x env) (Post prog w B Rv [] μ s K) noE s
  t : ∀ {x : Expr} {A : Around} {env : Env} {s : Shared} {μ : Mu} {σ : SH} {ρ : Loc} {K : Bool → SH → Prop}, Room n A → r.t x ρ σ K → St prog w B μ σ s.heap → Fm B env ρ μ s.heap →
    wpAny (model prog w) A (isTrue x env (eval x env)) (Post prog w B eqR [] μ s K) noE s
  s : ∀ {x : Stmt} {A : Around} {env : Env} {s : Shared} {μ : Mu} {σ : SH} {ρ : Loc} {K : KS}, Room n A → r.s x ρ σ K → St prog w B μ σ s.heap → Fm B env ρ μ s.heap →
    wpAny (model prog w) A (exec x env) (Post prog w B (stR B env) (wsOf env) μ s (un K)) noE s

section
variable {prog : Program} {w : World} {B : Heap} {A : Around} {s : Shared} {μ : Mu} {σ : SH} {n : Nat} {env : Env} {ρ : Loc} {r : Rec}

theorem evs_cons {e : Expr} {es : List Expr} {K : List V → SH → Prop} (h : evs r (e :: es) ρ σ K) :
    (∀ a p, e ≠ .Starred a p) ∧ r.e e ρ σ fun v σ1 => evs r es ρ σ1 fun vs σ2 => K (v :: vs) σ2 := by
  obtain ⟨h1, h2⟩ := ck.and h
  exact ⟨fun a p q => by subst q; exact no_bool h1.symm, h2⟩
theorem starEach_plain {e : Expr} {es : List Expr} (h : ∀ a p, e ≠ .Starred a p) : starEach (e :: es) env = (false, eval e env) :: starEach es env := by
  cases e <;> first | rfl | exact absurd rfl (h _ _)

theorem evs_plain (pos : Pos) (R : Snd prog w B n r) (hR : Room n A) : ∀ {es : List Expr} {s : Shared} {μ : Mu} {σ : SH} {K : List V → SH → Prop}, evs r es ρ σ K → St prog w B μ σ s.heap → Fm B env ρ μ s.heap →
    wpAny (model prog w) A (spliced (backTo pos (starEach es env))) (Post prog w B Rvs [] μ s K) noE s
  | [], s, μ, σ, K, h, S, F => by
    refine wpAny_items_nil (Post.here (v := []) S ?_ h)
    unfold Rvs; rfl
  | e :: es, s, μ, σ, K, h, S, F => by
    obtain ⟨h0, h⟩ := evs_cons h
    refine wpAny_items_cons ?_ (starEach_plain h0)
    refine wp_then (R.e hR h S F) fun v x σ1 μ1 s1 hK S1 X1 r1 Y1 => ?_
    refine wp_then (evs_plain pos R hR hK S1 (F.ext X1)) fun vs xs σ2 μ2 s2 hK2 S2 X2 r2 Y2 => ?_
    exact ⟨v :: vs, σ2, μ2, hK2, S2, X1.trans X2, Rvs.cons (r1.up X2.up) r2, Y1.trans Y2⟩

theorem truth_snd {v : V} {x : Value} {b : Bool} {Q : Bool → Shared → Prop} (h : truth v = some b) (rv : Rv μ s.heap v x) (hQ : Q b s) : wpAny (model prog w) A (truthy x) Q noE s := by
  cases v with
  | bool c => unfold Rv at rv; subst rv; cases h; exact wpAny_truthy_bool hQ
  | int i => unfold Rv at rv; obtain ⟨t, rfl⟩ := rv; cases h; exact P.truthy_int hQ
  | none => cases h
  | str _ => cases h
  | tup _ => cases h
  | ref _ => cases h
theorem truthW_snd {v : V} {x : Value} {K : Bool → Prop} {Q : Bool → Shared → Prop} (h : truthW v K) (rv : Rv μ s.heap v x) (hQ : ∀ b, K b → Q b s) : wpAny (model prog w) A (truthy x) Q noE s := by
  obtain ⟨b, hb, h⟩ := oP_is h
  exact truth_snd hb rv (hQ b h)

theorem boolW_snd (op : BoolOp) (pos : Pos) (R : Snd prog w B n r) (hR : Room n A) : ∀ {es : List Expr} {s : Shared} {μ : Mu} {σ : SH} {K : KE}, boolW r op es ρ σ K → St prog w B μ σ s.heap → Fm B env ρ μ s.heap →
    wpAny (model prog w) A (eval (.BoolOp op es pos) env) (Post prog w B Rv [] μ s K) noE s
  | [], s, μ, σ, K, h, S, F => h.elim
  | [e], s, μ, σ, K, h, S, F => BoolOp_one (R.e hR h S F)
  | e :: e2 :: es, s, μ, σ, K, h, S, F => by
    cases op with
    | And =>
      have h : r.e e ρ σ fun v σ1 => truthW v fun b => ifB b (boolW r .And (e2 :: es) ρ σ1 K) (K v σ1) := h
      refine BoolOp_and (wp_then (R.e hR h S F) fun v x σ1 μ1 s1 hK S1 X1 r1 Y1 => truthW_snd hK r1 fun b hb => ?_)
      cases b with
      | true => exact wp_back X1 Y1 (boolW_snd .And pos R hR hb S1 (F.ext X1))
      | false => exact (Post.here S1 r1 hb).back X1 Y1
    | Or =>
      have h : r.e e ρ σ fun v σ1 => truthW v fun b => ifB b (K v σ1) (boolW r .Or (e2 :: es) ρ σ1 K) := h
      refine BoolOp_or (wp_then (R.e hR h S F) fun v x σ1 μ1 s1 hK S1 X1 r1 Y1 => truthW_snd hK r1 fun b hb => ?_)
      cases b with
      | false => exact wp_back X1 Y1 (boolW_snd .Or pos R hR hb S1 (F.ext X1))
      | true => exact (Post.here S1 r1 hb).back X1 Y1

theorem boolT_snd (op : BoolOp) (R : Snd prog w B n r) (hR : Room n A) : ∀ {es : List Expr} {s : Shared} {μ : Mu} {σ : SH} {K : Bool → SH → Prop}, boolT r op es ρ σ K → St prog w B μ σ s.heap → Fm B env ρ μ s.heap →
    wpAny (model prog w) A (allTrue op es env) (Post prog w B eqR [] μ s K) noE s
  | [], s, μ, σ, K, h, S, F => by
    cases op with
    | And => exact wpAny_allTrue_And_nil (Post.here S rfl h)
    | Or => exact wpAny_allTrue_Or_nil (Post.here S rfl h)
  | e :: es, s, μ, σ, K, h, S, F => by
    cases op with
    | And =>
      have h : r.t e ρ σ fun b σ1 => ifB b (boolT r .And es ρ σ1 K) (K false σ1) := h
      refine wpAny_allTrue_And_cons (wp_then (R.t hR h S F) fun b x σ1 μ1 s1 hK S1 X1 r1 Y1 => ?_)
      obtain rfl : b = x := r1
      cases b with
      | true => exact wp_back X1 Y1 (boolT_snd .And R hR hK S1 (F.ext X1))
      | false => exact (Post.here S1 rfl hK).back X1 Y1
    | Or =>
      have h : r.t e ρ σ fun b σ1 => ifB b (K true σ1) (boolT r .Or es ρ σ1 K) := h
      refine wpAny_allTrue_Or_cons (wp_then (R.t hR h S F) fun b x σ1 μ1 s1 hK S1 X1 r1 Y1 => ?_)
      obtain rfl : b = x := r1
      cases b with
      | false => exact wp_back X1 Y1 (boolT_snd .Or R hR hK S1 (F.ext X1))
      | true => exact (Post.here S1 rfl hK).back X1 Y1

theorem chainW_e (pos : Pos) (R : Snd prog w B n r) (hR : Room n A) (hB : (B.get? sysModules).isSome = true) : ∀ {ops : List CmpOp} {es : List Expr} {a : V} {x : Value} {s : Shared} {μ : Mu} {σ : SH} {K : Bool → SH → Prop}, chainW r ops a es ρ σ K → St prog w B μ σ s.heap → Fm B env ρ μ s.heap → Rv μ s.heap a x →
    wpAny (model prog w) A (compareChain pos x ops (markedEach ops es (evalEach es env))) (Post prog w B boolR [] μ s K) noE s
  | [], _, _, _, s, μ, σ, K, h, S, F, ra => h.elim
  | [op], [], _, _, s, μ, σ, K, h, S, F, ra => h.elim
  | [op], [e], a, x, s, μ, σ, K, h, S, F, ra => by
    obtain ⟨h0, h⟩ := ck.and h
    show wpAny _ _ (do
      let rv ← holding [x] (markedBehindIn op e (eval e env))
      standAt pos
      operate [x, rv] (compareOp op x rv)) _ _ _
    rw [markedBehindIn_of_false h0]
    refine wpAny_bind (wpAny_holding (wp_then (R.e hR h S F) fun b y σ1 μ1 s1 hK S1 X1 r1 Y1 => wpAny_bind (wpAny_standAt (wpAny_operating ?_))))
    refine wp_then (cmpW_snd hR hB hK S1 (ra.up X1.up) r1) fun c z σ2 μ2 s2 hK2 S2 X2 r2 Y2 => ?_
    obtain ⟨hK2, rfl⟩ := hK2
    exact ⟨c, _, μ2, hK2, S2, X1.trans X2, r2, Y1.trans Y2⟩
  | [op], _ :: _ :: _, _, _, s, μ, σ, K, h, S, F, ra => h.elim
  | _ :: _ :: _, [], _, _, s, μ, σ, K, h, S, F, ra => h.elim
  | _ :: _ :: _, [_], _, _, s, μ, σ, K, h, S, F, ra => h.elim
  | op :: op2 :: ops, e :: e2 :: es, a, x, s, μ, σ, K, h, S, F, ra => by
    have h : r.e e ρ σ fun b σ1 => cmpW op a b σ1 fun c => ifB c (chainW r (op2 :: ops) b (e2 :: es) ρ σ1 K) (K false σ1) := h
    show wpAny _ _ (do
      let rv ← holding [x] (eval e env)
      standAt pos
      let c ← holding [x, rv] (compareOp op x rv)
      release [x, rv] [c]
      if ← holding [c, rv] (truthy c) then compareChain pos rv (op2 :: ops) (markedEach (op2 :: ops) (e2 :: es) (evalEach (e2 :: es) env)) else pure c) _ _ _
    refine wpAny_bind (wpAny_holding (wp_then (R.e hR h S F) fun b y σ1 μ1 s1 hK S1 X1 r1 Y1 => wpAny_bind (wpAny_standAt (wpAny_bind (wpAny_holding ?_)))))
    refine wp_then (cmpW_snd hR hB hK S1 (ra.up X1.up) r1) fun c z σ2 μ2 s2 hK2 S2 X2 r2 Y2 => ?_
    obtain ⟨hK2, rfl⟩ := hK2
    obtain rfl : z = .bool c := r2
    refine wpAny_bind (wpAny_release (wpAny_bind (wpAny_holding (wpAny_truthy_bool ?_))))
    have X := X1.trans X2
    cases c with
    | true => exact wp_back X (Y1.trans Y2) (chainW_e pos R hR hB hK2 S2 (F.ext X) (r1.up X2.up))
    | false => exact wpAny_pure ((Post.here S2 rfl hK2).back X (Y1.trans Y2))

theorem chainW_t (pos : Pos) (R : Snd prog w B n r) (hR : Room n A) (hB : (B.get? sysModules).isSome = true) : ∀ {ops : List CmpOp} {es : List Expr} {a : V} {x : Value} {s : Shared} {μ : Mu} {σ : SH} {K : Bool → SH → Prop}, chainW r ops a es ρ σ K → St prog w B μ σ s.heap → Fm B env ρ μ s.heap → Rv μ s.heap a x →
    wpAny (model prog w) A (testChain pos x ops (markedEach ops es (evalEach es env))) (Post prog w B eqR [] μ s K) noE s
  | [], _, _, _, s, μ, σ, K, h, S, F, ra => h.elim
  | [op], [], _, _, s, μ, σ, K, h, S, F, ra => h.elim
  | [op], [e], a, x, s, μ, σ, K, h, S, F, ra => by
    obtain ⟨h0, h⟩ := ck.and h
    show wpAny _ _ (do
      let rv ← holding [x] (markedBehindIn op e (eval e env))
      standAt pos
      let c ← operate [x, rv] (compareOp op x rv)
      holding [c] (truthy c)) _ _ _
    rw [markedBehindIn_of_false h0]
    refine wpAny_bind (wpAny_holding (wp_then (R.e hR h S F) fun b y σ1 μ1 s1 hK S1 X1 r1 Y1 => wpAny_bind (wpAny_standAt (wpAny_bind (wpAny_operating ?_)))))
    refine wp_then (cmpW_snd hR hB hK S1 (ra.up X1.up) r1) fun c z σ2 μ2 s2 hK2 S2 X2 r2 Y2 => ?_
    obtain ⟨hK2, rfl⟩ := hK2
    obtain rfl : z = .bool c := r2
    exact wpAny_holding (wpAny_truthy_bool ⟨c, _, μ2, hK2, S2, X1.trans X2, rfl, Y1.trans Y2⟩)
  | [op], _ :: _ :: _, _, _, s, μ, σ, K, h, S, F, ra => h.elim
  | _ :: _ :: _, [], _, _, s, μ, σ, K, h, S, F, ra => h.elim
  | _ :: _ :: _, [_], _, _, s, μ, σ, K, h, S, F, ra => h.elim
  | op :: op2 :: ops, e :: e2 :: es, a, x, s, μ, σ, K, h, S, F, ra => by
    have h : r.e e ρ σ fun b σ1 => cmpW op a b σ1 fun c => ifB c (chainW r (op2 :: ops) b (e2 :: es) ρ σ1 K) (K false σ1) := h
    show wpAny _ _ (do
      let rv ← holding [x] (eval e env)
      standAt pos
      let c ← holding [x, rv] (compareOp op x rv)
      release [x, rv] [c]
      if ← holding [c, rv] (truthy c) then testChain pos rv (op2 :: ops) (markedEach (op2 :: ops) (e2 :: es) (evalEach (e2 :: es) env)) else pure false) _ _ _
    refine wpAny_bind (wpAny_holding (wp_then (R.e hR h S F) fun b y σ1 μ1 s1 hK S1 X1 r1 Y1 => wpAny_bind (wpAny_standAt (wpAny_bind (wpAny_holding ?_)))))
    refine wp_then (cmpW_snd hR hB hK S1 (ra.up X1.up) r1) fun c z σ2 μ2 s2 hK2 S2 X2 r2 Y2 => ?_
    obtain ⟨hK2, rfl⟩ := hK2
    obtain rfl : z = .bool c := r2
    refine wpAny_bind (wpAny_release (wpAny_bind (wpAny_holding (wpAny_truthy_bool ?_))))
    have X := X1.trans X2
    cases c with
    | true => exact wp_back X (Y1.trans Y2) (chainW_t pos R hR hB hK2 S2 (F.ext X) (r1.up X2.up))
    | false => exact wpAny_pure ((Post.here S2 rfl hK2).back X (Y1.trans Y2))
end
end Sw

namespace Sw
open PySem PySem.Calls PyProof.Rows

/-- what a callable of the module is, to a caller -/
structure FnOk (prog : Program) (w : World) (B : Heap) (f : Value) (m : Nat) (P : List V → SH → KE → Prop) : Prop where
  cw : ∀ {A : Around} {pos : Pos} {args : List (Bool × Sem Value)} {s : Shared} {Q : Value → Shared → Prop}, args.any (·.1) = false →
    wpAny (model prog w) A (evalArgs f true args []) (fun x s₁ => x.kw = [] ∧ (∀ b o, B.get? b = some o → s₁.heap.get? b = some o) ∧ wpAny (model prog w) A (call f x.pos) Q noE s₁) noE s →
    wpAny (model prog w) A (callWith pos f [] args []) Q noE s
  go : ∀ {A : Around} {s : Shared} {μ : Mu} {σ : SH} {vs : List V} {xs : List Value} {K : KE}, Room m A → P vs σ K → St prog w B μ σ s.heap → Rvs μ s.heap vs xs →
    codeAny (model prog w) A (.call f ⟨xs, []⟩) (fun r s' => match r with | .ok (.ret v) => Post prog w B Rv [] μ s K v s' | .ok _ => False | .error e => noE e s') s
structure TabOk (prog : Program) (w : World) (B : Heap) (mg : Str → Option Value) (T : Tab) (n : Nat) : Prop where
  fn : ∀ {f m P}, T.fn f = some (m, P) → m ≤ n → (f == ("__debug__" : Str)) = false ∧ ∃ v, mg f = some v ∧ FnOk prog w B v m P
  const : ∀ {x i}, T.const x = some i → (x == ("__debug__" : Str)) = false ∧ ∃ t, mg x = some (.int i t)
theorem TabOk.mono {prog w B mg T n m} (x : TabOk prog w B mg T n) (h : m ≤ n) : TabOk prog w B mg T m := ⟨fun e l => x.fn e (Nat.le_trans l h), x.const⟩

section
variable {prog : Program} {w : World} {B : Heap} {mg mb : Str → Option Value} {A : Around} {s : Shared} {μ : Mu} {σ : SH} {n : Nat} {env : Env} {ρ : Loc} {r : Rec}

theorem isLoc_ne_glo {x : Str} (h1 : isLoc ρ x = true) (h2 : isGlo ρ x = true) : False := by
  unfold isGlo at h2
  have h2 : ρ.sc.names.lookup x = some .globalImplicit := by simpa using h2
  rcases isLoc_cases h1 with h | h <;> rw [h2] at h <;> cases h

theorem glo_snd {x : Str} {v : Value} {pos : Pos} {Q : Value → Shared → Prop} (G : Gr prog w B mg mb) (S : St prog w B μ σ s.heap) (F : Fm B env ρ μ s.heap) (hg : isGlo ρ x = true) (hv : mg x = some v)
    (hd : (x == ("__debug__" : Str)) = false) (h : Q v s) : wpAny (model prog w) A (eval (.Name x pos) env) Q noE s := by
  refine Name_function_global F.kind ?_ (loadGlobal_global (mg := mg) ?_ hv h) hd
  · rw [F.kindOf]; unfold isGlo at hg; simpa using hg
  · rw [F.glo]; exact G.g.keeps S.keep
theorem blt_snd {x : Str} {v : Value} {pos : Pos} {Q : Value → Shared → Prop} (G : Gr prog w B mg mb) (S : St prog w B μ σ s.heap) (F : Fm B env ρ μ s.heap) (hg : isGlo ρ x = true) (h0 : mg x = none) (hv : mb x = some v)
    (hd : (x == ("__debug__" : Str)) = false) (h : Q v s) : wpAny (model prog w) A (eval (.Name x pos) env) Q noE s := by
  refine Name_function_global F.kind ?_ (loadGlobal_builtin (mg := mg) (mb := mb) ?_ h0 ?_ hv h) hd
  · rw [F.kindOf]; unfold isGlo at hg; simpa using hg
  · rw [F.glo]; exact G.g.keeps S.keep
  · rw [F.blt]; exact G.b.keeps S.keep

theorem noStar_cons {e : Expr} {es : List Expr} (h : noStar (e :: es) = true) : (∀ a p, e ≠ .Starred a p) ∧ noStar es = true := by
  have h : cond (kd e 22) false (noStar es) = true := h
  cases q : kd e 22 with
  | true => rw [q] at h; exact no_bool h
  | false => rw [q] at h; exact ⟨fun a p e' => by subst e'; exact no_bool q.symm, h⟩
theorem noStar_any (pos : Pos) : ∀ {es : List Expr}, noStar es = true → (backTo pos (starEach es env)).any (·.1) = false
  | [], _ => rfl
  | e :: es, h => by
    have h1 := noStar_cons h
    rw [starEach_plain h1.1]
    exact noStar_any pos h1.2
theorem noStar_all (pos : Pos) : ∀ {es : List Expr}, noStar es = true → (backTo pos (starEach es env)).all (fun x => !x.1) = true
  | [], _ => rfl
  | e :: es, h => by
    have h1 := noStar_cons h
    rw [starEach_plain h1.1]
    exact noStar_all pos h1.2

/-- the arguments of a call -/
theorem args_snd (pos : Pos) (R : Snd prog w B n r) (hR : Room n A) {f : Value} {es : List Expr} {K : List V → SH → Prop} (hs : noStar es = true) (h : evs r es ρ σ K) (S : St prog w B μ σ s.heap) (F : Fm B env ρ μ s.heap) :
    wpAny (model prog w) A (evalArgs f true (backTo pos (starEach es env)) []) (fun a s₁ => ∃ xs, a = ⟨xs, []⟩ ∧ Post prog w B Rvs [] μ s K xs s₁) noE s := by
  cases es with
  | nil => exact PySem.evalArgs_none ⟨[], rfl, Post.here (v := []) S Rvs.nil h⟩
  | cons e es =>
    have h1 := (noStar_cons hs).1
    have := evs_plain pos R hR h S F
    rw [starEach_plain h1] at this ⊢
    exact evalArgs_plain (wpAny_mono this (fun xs s' P => ⟨xs, rfl, P⟩) fun _ _ e => e)

theorem isBuiltin_mem {f : Str} (h : isBuiltin f = true) : f ∈ (["len", "min", "max", "sum", "sorted", "list", "range", "enumerate"] : List Str) ∧ (f == ("__debug__" : Str)) = false ∧ bootBuiltins f = some (biV f) := by
  have : f ∈ (["len", "min", "max", "sum", "sorted", "list"] : List Str) := List.contains_iff_mem.mp h
  simp only [List.mem_cons, List.not_mem_nil, or_false] at this
  rcases this with rfl | rfl | rfl | rfl | rfl | rfl <;> exact ⟨by decide, by decide, by kernel_rfl⟩
end
end Sw

namespace Sw
open PySem PySem.Calls PyProof.Rows

noncomputable def Rps (μ : Mu) (h : Heap) : List (V × V) → List (Value × Value) → Prop
  | [], xs => xs = []
  | p :: ps, xs => ∃ x ys, xs = x :: ys ∧ Rv μ h p.1 x.1 ∧ Rv μ h p.2 x.2 ∧ Rps μ h ps ys
theorem Rps.up {μ h μ' h'} (u : Up μ h μ' h') : ∀ {ps : List (V × V)} {xs : List (Value × Value)}, Rps μ h ps xs → Rps μ' h' ps xs
  | [], _, r => r
  | p :: ps, xs, r => by
    obtain ⟨x, ys, rfl, a, b, q⟩ := r
    exact ⟨x, ys, rfl, a.up u, b.up u, Rps.up u q⟩

noncomputable def RpsN (n : Nat) (μ : Mu) (h : Heap) (ps : List (V × V)) (xs : List (Value × Value)) : Prop := Rps μ h ps xs ∧ ps.length = n
theorem putD_keys (k v : V) : ∀ (kvs : List (V × V)), ∀ p ∈ putD k v kvs, p.1 = k ∨ ∃ q ∈ kvs, q.1 = p.1
  | [], p, hp => by unfold putD at hp; rw [List.mem_singleton] at hp; subst hp; exact .inl rfl
  | q :: r, p, hp => by
    unfold putD at hp
    split at hp
    · rcases List.mem_cons.mp hp with rfl | h
      · exact .inr ⟨q, List.mem_cons_self, rfl⟩
      · exact .inr ⟨p, List.mem_cons_of_mem _ h, rfl⟩
    · rcases List.mem_cons.mp hp with rfl | h
      · exact .inr ⟨p, List.mem_cons_self, rfl⟩
      · rcases putD_keys k v r p h with e | ⟨z, hz, e⟩
        · exact .inl e
        · exact .inr ⟨z, List.mem_cons_of_mem _ hz, e⟩
theorem putD_len (k v : V) : ∀ (kvs : List (V × V)), (putD k v kvs).length ≤ kvs.length + 1
  | [] => by simp [putD]
  | q :: r => by
    unfold putD
    split
    · simp
    · have := putD_len k v r
      simp only [List.length_cons]; omega

section
variable {prog : Program} {w : World} {B : Heap} {mg mb : Str → Option Value} {A : Around} {s : Shared} {μ : Mu} {σ : SH} {n : Nat} {env : Env} {ρ : Loc} {r : Rec}

theorem storeAll_V {d : Addr} (hu : A.units + 1 < cLine) : ∀ {ps : List (V × V)} {xs : List (Value × Value)} {acc : List (V × V)} {s : Shared} {Q : PUnit → Shared → Prop}, Rps μ s.heap ps xs → DictV prog w μ s.heap d acc →
    sameSort ps → (∀ p ∈ ps, KeyFits p.1 acc) → acc.length + ps.length ≤ 1000 →
    (∀ h' tk, DictV prog w μ h' d (dictOfPairs acc ps) → Heap.SameBut d s.heap h' → Up μ s.heap μ h' → Q ⟨⟩ { s with heap := h', toks := tk }) →
    wpAny (model prog w) A (storeAll d xs) Q noE s
  | [], xs, acc, s, Q, r, D, hs, hf, hl, hQ => by
    obtain rfl : xs = [] := r
    unfold storeAll
    rw [List.forIn_nil]
    exact wpAny_pure (hQ s.heap s.toks D (Heap.SameBut.refl _ _) ⟨fun _ _ _ e => e, fun _ _ e => e⟩)
  | p :: ps, xs, acc, s, Q, r, D, hs, hf, hl, hQ => by
    obtain ⟨x, ys, rfl, ra, rb, q⟩ := r
    rw [List.length_cons] at hl
    unfold storeAll
    rw [List.forIn_cons]
    have hp := hf p List.mem_cons_self
    refine wpAny_bind (wpAny_bind (dictSet_V hu D ra rb hp (by omega) fun h1 tk1 D1 hs1 u1 => wpAny_pure ?_))
    have hs2 : sameSort ps := by
      cases ps with
      | nil => trivial
      | cons p2 ps => exact ⟨(hf p2 (by simp)).1, fun z hz => by rw [hs.2 z (List.mem_cons_of_mem _ hz), hs.2 p2 List.mem_cons_self]⟩
    refine storeAll_V hu (s := { s with heap := h1, toks := tk1 }) (q.up u1) D1 hs2 (fun z hz => ?_) (by have := putD_len p.1 p.2 acc; omega) fun h' tk D' hs' u' => ?_
    · refine ⟨(hf z (List.mem_cons_of_mem _ hz)).1, fun y hy => ?_⟩
      rcases putD_keys _ _ _ y hy with e | ⟨g, hg, e⟩
      · rw [e, hs.2 z hz]
      · rw [← e]; exact (hf z (List.mem_cons_of_mem _ hz)).2 g hg
    · exact hQ h' tk D' (hs1.trans hs') ⟨fun a xs n e => u'.tup a xs n (u1.tup a xs n e), fun k p e => u'.mu k p (u1.mu k p e)⟩

theorem pairsW_snd (pos : Pos) (R : Snd prog w B n r) (hR : Room n A) : ∀ {ks : List (Option Expr)} {vs : List Expr} {s : Shared} {μ : Mu} {σ : SH} {K : List (V × V) → SH → Prop}, pairsW r ks vs ρ σ K → St prog w B μ σ s.heap → Fm B env ρ μ s.heap →
    wpAny (model prog w) A (evalPairs (pairTrees ks vs env pos)) (Post prog w B (RpsN ks.length) [] μ s K) noE s
  | [], [], s, μ, σ, K, h, S, F => evalPairs_nil (Post.here (v := []) S ⟨rfl, rfl⟩ h)
  | [], _ :: _, s, μ, σ, K, h, S, F => h.elim
  | none :: _, _, s, μ, σ, K, h, S, F => h.elim
  | some _ :: _, [], s, μ, σ, K, h, S, F => h.elim
  | some k :: ks, v :: vs, s, μ, σ, K, h, S, F => by
    have h : r.e k ρ σ fun kv σ1 => r.e v ρ σ1 fun vv σ2 => pairsW r ks vs ρ σ2 fun ps σ3 => K ((kv, vv) :: ps) σ3 := h
    refine evalPairs_cons (wp_then (R.e hR h S F) fun kv x σ1 μ1 s1 hK S1 X1 r1 Y1 => wpAny_bind (wp_then (R.e hR hK S1 (F.ext X1)) fun vv y σ2 μ2 s2 hK2 S2 X2 r2 Y2 => wpAny_bind (wpAny_standAt (wpAny_pure ?_))))
    refine wp_then (pairsW_snd pos R hR hK2 S2 ((F.ext X1).ext X2)) fun ps xs σ3 μ3 s3 hK3 S3 X3 r3 Y3 => ?_
    have u3 := X3.up
    exact ⟨_, σ3, μ3, hK3, S3, (X1.trans X2).trans X3, ⟨⟨(x, y), xs, rfl, (r1.up X2.up).up u3, r2.up u3, r3.1⟩, congrArg Nat.succ r3.2⟩, (Y1.trans Y2).trans Y3⟩

/-- a dict outside the shadow joins it -/
theorem join_dict {h0 : Heap} {d : Addr} {kvs : List (V × V)} {h : Heap} (hd : d ∉ fpOf μ) (hB : B.get? d = none) (D : DictV prog w μ h d kvs) (S : St prog w B μ σ h) (hn : h0.get? d = none)
    {μ0 : Mu} (X : Ext [] μ0 h0 μ h) : St prog w B (μ ++ [(d, none)]) (σ ++ [.dict kvs]) h ∧ Ext [] μ0 h0 (μ ++ [(d, none)]) h := by
  refine ⟨S.grow (fun b hb => ?_) (by simp [ow]) ⟨rfl, D⟩, ⟨?_, X.keep, X.tup, fun b hb => ?_, X.live⟩⟩
  · obtain rfl : b = d := by simpa [ow] using hb
    exact ⟨hd, hB, let ⟨_, _, e, _⟩ := D.ex; ⟨_, e⟩⟩
  · obtain ⟨ν, rfl⟩ := X.pre
    exact ⟨ν ++ [(d, none)], by simp⟩
  · rw [fpOf_append] at hb
    rcases List.mem_append.mp hb with q | q
    · exact X.new b q
    · obtain rfl : b = d := by simpa [fpOf, ow] using q
      exact .inr hn
end
end Sw

namespace Sw
open PySem PySem.Calls PyProof.Rows

noncomputable def mtOf (m : Str) : Option Mt := if m = ("append" : Str) then some .append else if m = ("pop" : Str) then some .pop else if m = ("get" : Str) then some .get else none
theorem mtO_mtOf {o : SO} {m : Str} {i : Mt} (h : mtO o m = some i) : mtOf m = some i := by
  cases o with
  | list xs => exact meth_is h (fun hm q => by subst hm; exact q) fun h => meth_is h (fun hm q => by subst hm; exact q) no_none
  | dict kvs => exact meth_is h (fun hm q => by subst hm; exact q) no_none
  | _ => exact no_none h
theorem meth_facts {m : Str} {i : Mt} (h : mtOf m = some i) : PlainAttrs (mtType i) ∧ Slot (mtType i) m (mtId i) ∧ typeOf (.builtin (mtId i)) = pure (.type "method_descriptor") := by
  refine meth_is h (fun hm q => ?_) fun h => meth_is h (fun hm q => ?_) fun h => meth_is h (fun hm q => ?_) no_none
  all_goals subst hm; cases q
  · exact ⟨F.plainAttrs_list, F.slot_list_append, F.type_list_append⟩
  · exact ⟨F.plainAttrs_list, F.slot_list_pop, F.type_list_pop⟩
  · exact ⟨F.plainAttrs_dict, F.slot_dict_get, F.type_dict_get⟩

noncomputable def NoCall (o : Expr) : Prop := ∀ f a k p, o ≠ .Call f a k p
theorem base_plain {o : Expr} (h : NoCall o) (attr : Str) (env : Env) (t : Sem Value) : attributeBase o attr env t = t := by
  cases o <;> first | rfl | exact absurd rfl (h _ _ _ _)

section
variable {prog : Program} {w : World} {B : Heap} {mg mb : Str → Option Value} {A : Around} {s : Shared} {μ : Mu} {σ : SH} {n : Nat} {env : Env} {ρ : Loc} {r : Rec} {T : Tab}

theorem call_fn (G : Gr prog w B mg mb) (TO : TabOk prog w B mg T n) (R : Snd prog w B n r) (hR : Room n A) {f : Str} {p pos : Pos} {args : List Expr} {m : Nat} {P : List V → SH → KE → Prop} {K : KE} (hg : isGlo ρ f = true) (hs : noStar args = true)
    (hT : T.fn f = some (m, P)) (hm : m ≤ n) (h : evs r args ρ σ fun vs σ1 => P vs σ1 K) (S : St prog w B μ σ s.heap) (F : Fm B env ρ μ s.heap) :
    wpAny (model prog w) A (eval (.Call (.Name f p) args [] pos) env) (Post prog w B Rv [] μ s K) noE s := by
  obtain ⟨hd, v, hv, O⟩ := TO.fn hT hm
  refine Call_Name rfl (glo_snd G S F hg hv hd ?_)
  refine O.cw (noStar_any pos hs) ?_
  refine wpAny_mono (args_snd pos R hR hs h S F) (fun a s₁ q => ?_) fun _ _ e => e
  obtain ⟨xs, rfl, vs, σ1, μ1, hK, S1, X1, r1, Y1⟩ := q
  exact ⟨rfl, S1.keep, wp_back X1 Y1 (wpAny_call (O.go (hR.mono hm) hK S1 r1))⟩

theorem call_bi (G : Gr prog w B mg mb) (R : Snd prog w B n r) (hR : Room n A) {f : Str} {p pos : Pos} {args : List Expr} {K : KE} (hg : isGlo ρ f = true) (hs : noStar args = true)
    (hb : isBuiltin f = true) (h : evs r args ρ σ fun vs σ1 => biW f vs σ1 K) (S : St prog w B μ σ s.heap) (F : Fm B env ρ μ s.heap) :
    wpAny (model prog w) A (eval (.Call (.Name f p) args [] pos) env) (Post prog w B Rv [] μ s K) noE s := by
  obtain ⟨hm, hd, he⟩ := isBuiltin_mem hb
  obtain ⟨h0, h1⟩ := G.free f hm
  refine Call_Name rfl (blt_snd G S F hg h0 (h1.trans he) hd ?_)
  have body : wpAny (model prog w) A (evalArgs (biV f) true (backTo pos (starEach args env)) []) (fun a s₁ => wpAny (model prog w) A (call (biV f) ([] ++ a.pos) a.kw) (Post prog w B Rv [] μ s K) noE s₁) noE s := by
    refine wpAny_mono (args_snd pos R hR hs h S F) (fun a s₁ q => ?_) fun _ _ e => e
    obtain ⟨xs, rfl, vs, σ1, μ1, hK, S1, X1, r1, Y1⟩ := q
    exact wp_back X1 Y1 (biW_snd hR G.mods hb hK S1 r1)
  revert body
  unfold biV
  split
  · exact PyProof.Rows.callWith_type (noStar_any pos hs)
  · exact callWith_builtin (noStar_any pos hs)

theorem call_meth (G : Gr prog w B mg mb) (R : Snd prog w B n r) (hR : Room n A) {o : Expr} {m : Str} {ap pos : Pos} {args : List Expr} {K : KE} (ho : NoCall o) (hl : (ap.endLine == pos.line) = true) (hs : noStar args = true) (hn : args.length ≤ 20)
    (h : r.e o ρ σ fun x σ1 => callM r m args ρ x σ1 K) (S : St prog w B μ σ s.heap) (F : Fm B env ρ μ s.heap) :
    wpAny (model prog w) A (eval (.Call (.Attribute o m ap) args [] pos) env) (Post prog w B Rv [] μ s K) noE s := by
  cases hi : mtOf m with
  | none =>
    rw [arm_eval_Call, base_plain ho]
    refine wpAny_bind (wp_then (R.e hR h S F) fun v x σ1 μ1 s1 hK S1 X1 r1 Y1 => ?_)
    cases v with
    | ref k =>
      obtain ⟨o, e, hK⟩ := oP_is hK
      obtain ⟨i, q, _⟩ := oP_is hK
      rw [mtO_mtOf q] at hi
      cases hi
    | _ => exact hK.elim
  | some i =>
    obtain ⟨pa, sl, ty⟩ := meth_facts hi
    refine wpAny_Call_method (T := mtType i) (id := mtId i) (base_plain ho _ _ _) ?_ hl pa sl ty (wp_then (R.e hR h S F) fun v x σ1 μ1 s1 hK S1 X1 r1 Y1 => ?_)
    · rw [noStar_all pos hs]
      simp only [Bool.true_and, keywordEach, backToKw, List.map_nil, List.all_nil, decide_eq_true_eq, List.length_nil, List.isEmpty_nil, if_true]
      omega
    · cases v with
      | ref k =>
        obtain ⟨o, e, hK⟩ := oP_is hK
        obtain ⟨j, q, hK⟩ := oP_is hK
        have : j = i := Option.some.inj ((mtO_mtOf q).symm.trans hi)
        subst this
        obtain ⟨_, _, _, t1, t2⟩ := mtO_snd e q S1 r1
        refine ⟨t1, t2, callWith_builtin (noStar_any pos hs) ?_⟩
        refine wpAny_mono (args_snd pos R hR hs hK S1 (F.ext X1)) (fun a s₂ z => ?_) fun _ _ e => e
        obtain ⟨xs, rfl, vs, σ2, μ2, hK2, S2, X2, r2, Y2⟩ := z
        exact wp_back (X1.trans X2) (Y1.trans Y2) (methW_snd hR G.mods hK2 S2 (r1.up X2.up) r2)
      | _ => exact hK.elim

theorem dict_snd (R : Snd prog w B n r) (hR : Room n A) {ks : List (Option Expr)} {vs : List Expr} {pos : Pos} {K : KE} (h0 : ks.length = vs.length ∧ ks.length ≤ 15 ∧ ks.all (·.isSome) = true)
    (h : pairsW r ks vs ρ σ fun ps σ1 => sameSort ps ∧ K (.ref σ1.length) (σ1 ++ [.dict (dictOfPairs [] ps)])) (S : St prog w B μ σ s.heap) (F : Fm B env ρ μ s.heap) :
    wpAny (model prog w) A (eval (.Dict ks vs pos) env) (Post prog w B Rv [] μ s K) noE s := by
  have hu := hR.units
  obtain ⟨hl, hn, ha⟩ := h0
  cases ks with
  | nil =>
    obtain rfl : vs = [] := List.eq_nil_of_length_eq_zero hl.symm
    obtain ⟨_, hK⟩ := h
    refine wpAny_Dict_empty ?_
    obtain ⟨S', X⟩ := S.alloc (o := .dict []) (ob := { cls := .type "dict", data := .dict #[] }) rfl ⟨rfl, ⟨0, #[], Heap.get?_push_size _ rfl, by unfold Rk; rfl⟩, List.nodup_nil⟩
    refine ⟨.ref σ.length, _, _, hK, S', X, ?_, ⟨rfl, rfl, rfl⟩⟩
    unfold Rv
    exact ⟨(s.heap.objs.size, none), by rw [← S.len, List.getElem?_append_right (Nat.le_refl _), Nat.sub_self]; rfl, rfl⟩
  | cons k ks =>
    refine wpAny_Dict_any ha hl (by simp) hn ?_
    generalize hd : s.heap.objs.size = d
    have X0 : Ext [] μ s.heap μ (s.heap.push { cls := .type "dict", data := .dict #[] }) := ext_push [] μ s.heap _
    have S0 := S.push { cls := .type "dict", data := .dict #[] }
    have hf := S.fresh
    rw [hd] at hf
    have g0 : (s.heap.push { cls := .type "dict", data := .dict #[] }).get? d = some { cls := .type "dict", data := .dict #[] } := by rw [← hd]; exact Heap.get?_push_size _ rfl
    have hn0 : s.heap.get? d = none := by
      cases q : s.heap.get? d with
      | none => rfl
      | some o => have := Heap.lt_size q; rw [hd] at this; exact absurd this (Nat.lt_irrefl _)
    refine wp_then (pairsW_snd (s := { s with heap := s.heap.push { cls := .type "dict", data := .dict #[] } }) pos R hR h S0 (F.ext X0)) fun ps xs σ1 μ1 s1 hK S1 X1 r1 Y1 => ?_
    obtain ⟨hps, hK⟩ := hK
    have hd1 : d ∉ fpOf μ1 := fun hm => by
      rcases X1.new d hm with q | q
      · exact hf.1 q
      · rw [g0] at q; cases q
    have g1 := X1.keep d _ g0 hf.1 (by simp)
    refine storeAll_V (by omega) r1.1 (acc := []) ⟨⟨0, #[], g1, by unfold Rk; rfl⟩, List.nodup_nil⟩ hps (fun p hp => ⟨?_, fun q hq => by cases hq⟩) ?_ fun h' tk D' hs' u' => ?_
    · cases ps with
      | nil => cases hp
      | cons p0 ps =>
        rcases List.mem_cons.mp hp with rfl | q
        · exact hps.1
        · rw [hps.2 p q]; exact hps.1
    · show 0 + ps.length ≤ 1000
      have := r1.2; omega
    · have S2 := S1.beside hd1 hf.2 hs' u'
      have X2 : Ext [] μ s.heap μ1 h' := by
        refine ⟨X1.pre, fun b o e hb hw => ?_, fun a xs n e => u'.tup a xs n (X1.tup a xs n (X0.tup a xs n e)), fun b hb => ?_, fun b o e => ?_⟩
        · have hbd : b ≠ d := by rintro rfl; rw [hn0] at e; cases e
          exact (hs'.2 b hbd).trans (X1.keep b o (X0.keep b o e hb hw) hb hw)
        · exact (X0.trans X1).new b hb
        · have hbd : b ≠ d := by rintro rfl; rw [hn0] at e; cases e
          obtain ⟨o', e'⟩ := (X0.trans X1).live b o e
          exact ⟨o', (hs'.2 b hbd).trans e'⟩
      obtain ⟨S3, X3⟩ := join_dict hd1 hf.2 D' S2 hn0 X2
      refine ⟨.ref σ1.length, _, _, hK, S3, X3, ?_, ⟨Y1.gens, Y1.drawn, Y1.os⟩⟩
      unfold Rv
      exact ⟨(d, none), by rw [← S2.len, List.getElem?_append_right (Nat.le_refl _), Nat.sub_self]; rfl, rfl⟩
end
end Sw

namespace Sw
open PySem PySem.Calls PyProof.Rows

section
variable {prog : Program} {w : World} {B : Heap} {mg mb : Str → Option Value} {A : Around} {s : Shared} {μ : Mu} {σ : SH} {n : Nat} {env : Env} {ρ : Loc} {r : Rec} {T : Tab}

theorem name_snd (G : Gr prog w B mg mb) (TO : TabOk prog w B mg T n) {x : Str} {p : Pos} {K : KE} (S : St prog w B μ σ s.heap) (F : Fm B env ρ μ s.heap)
    (h : ck ((x == ("__debug__" : Str)) = false) (match ρ.get x with
      | some v => K v σ
      | none => match T.const x with
        | some i => ck (isGlo ρ x = true) (K (.int i) σ)
        | none => False)) : wpAny (model prog w) A (eval (.Name x p) env) (Post prog w B Rv [] μ s K) noE s := by
  obtain ⟨hd, h⟩ := ck.and h
  split at h
  · rename_i v hv
    exact wpAny_Name (load_snd S F hv h) hd
  · split at h
    · rename_i i hi
      obtain ⟨hg, hK⟩ := ck.and h
      obtain ⟨h1, t, h2⟩ := TO.const hi
      exact glo_snd G S F hg h2 h1 (Post.here S (rv_int _ _) hK)
    · exact h.elim

theorem const_snd {c : Const} {k : Nat} {p : Pos} {K : KE} (S : St prog w B μ σ s.heap)
    (h : match c with
    | .none => K .none σ
    | .bool b => K (.bool b) σ
    | .int i => K (.int i) σ
    | .str s => K (.str s) σ
    | _ => False) : wpAny (model prog w) A (eval (.Constant c k p) env) (Post prog w B Rv [] μ s K) noE s := by
  split at h
  · exact wpAny_Constant_none (Post.here S rv_none h)
  · exact wpAny_Constant_bool (Post.here S (rv_bool _) h)
  · exact wpAny_Constant_int (Post.now S (rv_int _ _) h _)
  · exact PySem.wpAny_Constant_str (Post.now S (rv_str _ _) h _)
  · exact h.elim

theorem bin_snd (R : Snd prog w B n r) (hR : Room n A) {a b : Expr} {op : Operator} {p : Pos} {K : KE} (h : r.e a ρ σ fun x σ1 => r.e b ρ σ1 fun y σ2 => binW op x y σ2 K) (S : St prog w B μ σ s.heap) (F : Fm B env ρ μ s.heap) :
    wpAny (model prog w) A (eval (.BinOp a op b p) env) (Post prog w B Rv [] μ s K) noE s := by
  refine wpAny_BinOp (wp_then (R.e hR h S F) fun x u σ1 μ1 s1 hK S1 X1 r1 Y1 => wp_then (R.e hR hK S1 (F.ext X1)) fun y v σ2 μ2 s2 hK2 S2 X2 r2 Y2 => ?_)
  exact wp_back (X1.trans X2) (Y1.trans Y2) (binW_snd hK2 S2 (r1.up X2.up) r2)

theorem un_snd (R : Snd prog w B n r) (hR : Room n A) {a : Expr} {op : UnaryOp} {p : Pos} {K : KE} (h : r.e a ρ σ fun x σ1 => match op, x with
    | .USub, .int i => K (.int (-i)) σ1
    | .Not, x => truthW x fun b => K (.bool (!b)) σ1
    | _, _ => False) (S : St prog w B μ σ s.heap) (F : Fm B env ρ μ s.heap) :
    wpAny (model prog w) A (eval (.UnaryOp op a p) env) (Post prog w B Rv [] μ s K) noE s := by
  refine UnaryOp_ (wp_then (R.e hR h S F) fun x u σ1 μ1 s1 hK S1 X1 r1 Y1 => ?_)
  split at hK
  · unfold Rv at r1
    obtain ⟨t, rfl⟩ := r1
    exact PySem.P.neg_int ((Post.now S1 (rv_int _ _) hK _).back X1 Y1)
  · exact not_of (truthW_snd hK r1 fun b hb => (Post.here S1 (rv_bool _) hb).back X1 Y1)
  · exact hK.elim

theorem ifx_snd (R : Snd prog w B n r) (hR : Room n A) {t a b : Expr} {p : Pos} {K : KE} (h : r.t t ρ σ fun c σ1 => ifB c (r.e a ρ σ1 K) (r.e b ρ σ1 K)) (S : St prog w B μ σ s.heap) (F : Fm B env ρ μ s.heap) :
    wpAny (model prog w) A (eval (.IfExp t a b p) env) (Post prog w B Rv [] μ s K) noE s := by
  refine IfExp_ (wp_then (R.t hR h S F) fun c u σ1 μ1 s1 hK S1 X1 r1 Y1 => ?_)
  obtain rfl : c = u := r1
  cases c with
  | true => exact wp_back X1 Y1 (R.e hR hK S1 (F.ext X1))
  | false => exact wp_back X1 Y1 (R.e hR hK S1 (F.ext X1))
theorem ifxT_snd (R : Snd prog w B n r) (hR : Room n A) {t a b : Expr} {p : Pos} {wh : Sem Value} {K : Bool → SH → Prop} (h : r.t t ρ σ fun c σ1 => ifB c (r.t a ρ σ1 K) (r.t b ρ σ1 K)) (S : St prog w B μ σ s.heap) (F : Fm B env ρ μ s.heap) :
    wpAny (model prog w) A (isTrue (.IfExp t a b p) env wh) (Post prog w B eqR [] μ s K) noE s := by
  refine isTrue_IfExp (wp_then (R.t hR h S F) fun c u σ1 μ1 s1 hK S1 X1 r1 Y1 => ?_)
  obtain rfl : c = u := r1
  cases c with
  | true => exact wp_back X1 Y1 (R.t hR hK S1 (F.ext X1))
  | false => exact wp_back X1 Y1 (R.t hR hK S1 (F.ext X1))

theorem Rvs.len_eq {μ h} {vs : List V} {xs : List Value} (r : Rvs μ h vs xs) : xs.length = vs.length := r.length

theorem evs_len : ∀ {es : List Expr} {K : List V → SH → Prop} {σ : SH}, evs r es ρ σ K → True := fun _ => trivial

noncomputable def RvsN (n : Nat) (μ : Mu) (h : Heap) (vs : List V) (xs : List Value) : Prop := Rvs μ h vs xs ∧ xs.length = n
theorem evs_plainN (pos : Pos) (R : Snd prog w B n r) (hR : Room n A) : ∀ {es : List Expr} {s : Shared} {μ : Mu} {σ : SH} {K : List V → SH → Prop}, evs r es ρ σ K → St prog w B μ σ s.heap → Fm B env ρ μ s.heap →
    wpAny (model prog w) A (spliced (backTo pos (starEach es env))) (Post prog w B (RvsN es.length) [] μ s K) noE s
  | [], s, μ, σ, K, h, S, F => wpAny_items_nil (Post.here (v := []) S ⟨Rvs.nil, rfl⟩ h)
  | e :: es, s, μ, σ, K, h, S, F => by
    obtain ⟨h0, h⟩ := evs_cons h
    refine wpAny_items_cons ?_ (starEach_plain h0)
    refine wp_then (R.e hR h S F) fun v x σ1 μ1 s1 hK S1 X1 r1 Y1 => ?_
    refine wp_then (evs_plainN pos R hR hK S1 (F.ext X1)) fun vs xs σ2 μ2 s2 hK2 S2 X2 r2 Y2 => ?_
    exact ⟨v :: vs, σ2, μ2, hK2, S2, X1.trans X2, ⟨Rvs.cons (r1.up X2.up) r2.1, congrArg Nat.succ r2.2⟩, Y1.trans Y2⟩

theorem tup_snd (R : Snd prog w B n r) (hR : Room n A) {es : List Expr} {k : Nat} {p : Pos} {K : KE} (hl : es.length ≤ 1000) (h : evs r es ρ σ fun vs σ1 => K (.tup vs) σ1) (S : St prog w B μ σ s.heap) (F : Fm B env ρ μ s.heap) :
    wpAny (model prog w) A (eval (.Tuple es k p) env) (Post prog w B Rv [] μ s K) noE s := by
  refine wpAny_Tuple (wp_then (evs_plainN p R hR h S F) fun vs xs σ1 μ1 s1 hK S1 X1 r1 Y1 => ⟨?_, ?_⟩)
  · rw [r1.2, sizeLine_eq]; omega
  · exact (Post.tuple S1 r1.1 hK).back X1 Y1
theorem list_snd (R : Snd prog w B n r) (hR : Room n A) {es : List Expr} {p : Pos} {K : KE} (hl : es.length ≤ 1000) (h : evs r es ρ σ fun vs σ1 => K (.ref σ1.length) (σ1 ++ [.list vs])) (S : St prog w B μ σ s.heap) (F : Fm B env ρ μ s.heap) :
    wpAny (model prog w) A (eval (.List es p) env) (Post prog w B Rv [] μ s K) noE s := by
  refine wpAny_List (wp_then (evs_plainN p R hR h S F) fun vs xs σ1 μ1 s1 hK S1 X1 r1 Y1 => ⟨?_, ?_⟩)
  · rw [r1.2, sizeLine_eq]; omega
  · exact (Post.list S1 r1.1 hK).back X1 Y1

theorem cmp_snd (G : Gr prog w B mg mb) (R : Snd prog w B n r) (hR : Room n A) {a : Expr} {ops : List CmpOp} {es : List Expr} {p : Pos} {K : KE} (h : r.e a ρ σ fun x σ1 => chainW r ops x es ρ σ1 fun b σ2 => K (.bool b) σ2)
    (S : St prog w B μ σ s.heap) (F : Fm B env ρ μ s.heap) : wpAny (model prog w) A (eval (.Compare a ops es p) env) (Post prog w B Rv [] μ s K) noE s := by
  rw [arm_eval_Compare]
  refine wpAny_bind (wp_then (R.e hR h S F) fun x u σ1 μ1 s1 hK S1 X1 r1 Y1 => ?_)
  refine wpAny_mono (wp_back X1 Y1 (chainW_e p R hR G.mods hK S1 (F.ext X1) r1)) (fun z s2 P => ?_) fun _ _ e => e
  obtain ⟨b, σ2, μ2, h1, h2, h3, h4, h5⟩ := P
  obtain rfl : z = .bool b := h4
  exact ⟨.bool b, σ2, μ2, h1, h2, h3, rv_bool _, h5⟩
theorem cmpT_snd (G : Gr prog w B mg mb) (R : Snd prog w B n r) (hR : Room n A) {a : Expr} {ops : List CmpOp} {es : List Expr} {p : Pos} {wh : Sem Value} {K : Bool → SH → Prop} (h : r.e a ρ σ fun x σ1 => chainW r ops x es ρ σ1 K)
    (S : St prog w B μ σ s.heap) (F : Fm B env ρ μ s.heap) : wpAny (model prog w) A (isTrue (.Compare a ops es p) env wh) (Post prog w B eqR [] μ s K) noE s := by
  rw [arm_isTrue_Compare]
  refine wpAny_bind (wp_then (R.e hR h S F) fun x u σ1 μ1 s1 hK S1 X1 r1 Y1 => ?_)
  exact wp_back X1 Y1 (chainW_t p R hR G.mods hK S1 (F.ext X1) r1)

theorem part_snd (R : Snd prog w B n r) (hR : Room n A) {o : Option Expr} {K : Option Int → SH → Prop} (h : slicePart r o ρ σ K) (S : St prog w B μ σ s.heap) (F : Fm B env ρ μ s.heap) :
    wpAny (model prog w) A (evalPart o env) (Post prog w B partR [] μ s K) noE s := by
  cases o with
  | none => exact evalPart_none_step (Post.here (v := none) S .none h)
  | some e =>
    refine evalPart_some_step (wp_then (R.e hR h S F) fun x u σ1 μ1 s1 hK S1 X1 r1 Y1 => ?_)
    split at hK
    · unfold Rv at r1
      obtain ⟨t, rfl⟩ := r1
      exact (Post.here S1 (.int _ _) hK).back X1 Y1
    · exact hK.elim

theorem slice_snd (R : Snd prog w B n r) (hR : Room n A) {a : Expr} {lo hi : Option Expr} {p q : Pos} {K : KE} (h : r.e a ρ σ fun x σ1 => slicePart r lo ρ σ1 fun l σ2 => slicePart r hi ρ σ2 fun u σ3 => sliceW x l u σ3 K)
    (S : St prog w B μ σ s.heap) (F : Fm B env ρ μ s.heap) : wpAny (model prog w) A (eval (.Subscript a (.Slice lo hi none q) p) env) (Post prog w B Rv [] μ s K) noE s := by
  refine Subscript_ (wp_then (R.e hR h S F) fun x u σ1 μ1 s1 hK S1 X1 r1 Y1 => ?_)
  refine wpAny_Slice (wp_then (part_snd R hR hK S1 (F.ext X1)) fun l ul σ2 μ2 s2 hK2 S2 X2 r2 Y2 => wp_then (part_snd R hR hK2 S2 ((F.ext X1).ext X2)) fun z uz σ3 μ3 s3 hK3 S3 X3 r3 Y3 => evalPart_none_step ?_)
  exact wpAny_mono (sliceW_snd hK3 S3 ((r1.up X2.up).up X3.up) r2 r3) (fun _ _ P => P.back ((X1.trans X2).trans X3) ((Y1.trans Y2).trans Y3)) fun _ _ e => e

theorem sub_snd (R : Snd prog w B n r) (hR : Room n A) {a i : Expr} {p : Pos} {K : KE} (hi : ∀ a b c d, i ≠ .Slice a b c d) (h : r.e a ρ σ fun x σ1 => r.e i ρ σ1 fun j σ2 => getI x j σ2 K)
    (S : St prog w B μ σ s.heap) (F : Fm B env ρ μ s.heap) : wpAny (model prog w) A (eval (.Subscript a i p) env) (Post prog w B Rv [] μ s K) noE s := by
  refine Subscript_ (wp_then (R.e hR h S F) fun x u σ1 μ1 s1 hK S1 X1 r1 Y1 => wp_then (R.e hR hK S1 (F.ext X1)) fun y v σ2 μ2 s2 hK2 S2 X2 r2 Y2 => ?_)
  exact wp_back (X1.trans X2) (Y1.trans Y2) (getI_snd hR hi hK2 S2 (r1.up X2.up) r2)

theorem attr_snd (G : Gr prog w B mg mb) (R : Snd prog w B n r) (hR : Room n A) {a : Expr} {m : Str} {p : Pos} {K : KE} (ha : NoCall a) (h : r.e a ρ σ fun x σ1 => getA x m σ1 K)
    (S : St prog w B μ σ s.heap) (F : Fm B env ρ μ s.heap) : wpAny (model prog w) A (eval (.Attribute a m p) env) (Post prog w B Rv [] μ s K) noE s := by
  refine Attribute_any_ (wp_then (R.e hR h S F) fun x u σ1 μ1 s1 hK S1 X1 r1 Y1 => wp_back X1 Y1 (getA_snd G hK S1 r1)) ?_
  rw [arm_eval_Attribute, base_plain ha]

theorem notT_snd (R : Snd prog w B n r) (hR : Room n A) {a : Expr} {p : Pos} {wh : Sem Value} {K : Bool → SH → Prop} (h : r.t a ρ σ fun b σ1 => K (!b) σ1)
    (S : St prog w B μ σ s.heap) (F : Fm B env ρ μ s.heap) : wpAny (model prog w) A (isTrue (.UnaryOp .Not a p) env wh) (Post prog w B eqR [] μ s K) noE s := by
  refine isTrue_not (wp_then (R.t hR h S F) fun b u σ1 μ1 s1 hK S1 X1 r1 Y1 => ?_)
  obtain rfl : b = u := r1
  exact (Post.here S1 rfl hK).back X1 Y1
theorem plainT_snd {e : Expr} {wh : Sem Value} {K : Bool → SH → Prop} (he : isTrue e env wh = (do let v ← wh; standAt e.pos; holding [v] (truthy v)))
    (h : wpAny (model prog w) A wh (Post prog w B Rv [] μ s fun x σ1 => truthW x fun b => K b σ1) noE s) : wpAny (model prog w) A (isTrue e env wh) (Post prog w B eqR [] μ s K) noE s := by
  refine PyProof.Rows.isTrue_plain (wp_then h fun x u σ1 μ1 s1 hK S1 X1 r1 Y1 => ?_) he
  exact truthW_snd hK r1 fun b hb => (Post.here S1 rfl hb).back X1 Y1
end
end Sw

namespace Sw
open PySem PySem.Calls PyProof.Rows

/-- a loop's own objects stand beside the shadow -/
structure Apart (B : Heap) (fp : List Addr) (μ : Mu) (h : Heap) : Prop where
  ap : ∀ b ∈ fp, b ∉ fpOf μ ∧ B.get? b = none ∧ ∃ o, h.get? b = some o ∧ o.cls ≠ .type "tuple"

section
variable {prog : Program} {w : World} {B : Heap} {mg mb : Str → Option Value} {A : Around} {s : Shared} {μ : Mu} {σ : SH} {n : Nat} {env : Env} {ρ : Loc} {r : Rec} {T : Tab} {fp ws : List Addr} {h : Heap}

theorem Apart.ext {μ' : Mu} {h' : Heap} (P : Apart B fp μ h) (X : Ext ws μ h μ' h') (hw : ∀ b ∈ fp, b ∉ ws) : Apart B fp μ' h' := ⟨fun b hb => by
  obtain ⟨a1, a2, o, e, hc⟩ := P.ap b hb
  refine ⟨fun hm => ?_, a2, o, X.keep b o e a1 (hw b hb), hc⟩
  rcases X.new b hm with q | q
  · exact a1 q
  · rw [e] at q; cases q⟩

theorem not_tup {b : Addr} {o : Obj} (e : h.get? b = some o) (hc : o.cls ≠ .type "tuple") {xs : Array Value} {n : Nat} : h.get? b ≠ some { cls := .type "tuple", data := .seq xs n } := by
  intro q; rw [e] at q; cases q; exact hc rfl

/-- a loop's own objects turn; the rest stands -/
theorem own_step {h' : Heap} (P : Apart B fp μ h) (L : ∀ b ∈ fp, ∃ o, h'.get? b = some o ∧ o.cls ≠ .type "tuple") (k : ∀ b o, b ∉ fp → h.get? b = some o → h'.get? b = some o) (S : St prog w B μ σ h) :
    St prog w B μ σ h' ∧ Ext fp μ h μ h' ∧ Apart B fp μ h' := by
  have u : Up μ h μ h' := ⟨fun a xs n e => k a _ (fun hm => by obtain ⟨_, _, o, q, hc⟩ := P.ap a hm; exact not_tup q hc e) e, fun _ _ e => e⟩
  refine ⟨S.outside (fun b o e q => k b o (fun hm => ?_) e) u, ⟨⟨[], by simp⟩, fun b o e _ hb => k b o hb e, u.tup, fun _ hb => .inl hb, fun b o e => ?_⟩, ⟨fun b hb => ⟨(P.ap b hb).1, (P.ap b hb).2.1, L b hb⟩⟩⟩
  · obtain ⟨a1, a2, _⟩ := P.ap b hm
    rcases q with q | q
    · exact a1 q
    · rw [a2] at q; cases q
  · by_cases hb : b ∈ fp
    · obtain ⟨o', e', _⟩ := L b hb; exact ⟨o', e'⟩
    · exact ⟨o, k b o hb e⟩
/-- at a loop's end its own objects may be gone -/
theorem own_end {h0 h' : Heap} {μ0 : Mu} (P : Apart B fp μ h) (hf : ∀ b ∈ fp, h0.get? b = none) (k : ∀ b o, b ∉ fp → h.get? b = some o → h'.get? b = some o) (S : St prog w B μ σ h) (X : Ext ws μ0 h0 μ h) :
    St prog w B μ σ h' ∧ Ext ws μ0 h0 μ h' := by
  have u : Up μ h μ h' := ⟨fun a xs n e => k a _ (fun hm => by obtain ⟨_, _, o, q, hc⟩ := P.ap a hm; exact not_tup q hc e) e, fun _ _ e => e⟩
  have nf : ∀ b o, h0.get? b = some o → b ∉ fp := fun b o e hm => by rw [hf b hm] at e; cases e
  refine ⟨S.outside (fun b o e q => k b o (fun hm => ?_) e) u, ⟨X.pre, fun b o e h1 h2 => k b o (nf b o e) (X.keep b o e h1 h2), fun a xs n e => u.tup a xs n (X.tup a xs n e), X.new, fun b o e => ?_⟩⟩
  · obtain ⟨a1, a2, _⟩ := P.ap b hm
    rcases q with q | q
    · exact a1 q
    · rw [a2] at q; cases q
  · obtain ⟨o', e'⟩ := X.live b o e
    exact ⟨o', k b o' (nf b o e) e'⟩

structure IterOk (prog : Program) (w : World) (B : Heap) (A : Around) (S : Src) (I : Addr) (fp : List Addr) (At : Nat → Mu → Heap → Prop) (Mid : Nat → Value → Mu → Heap → Prop) : Prop where
  frame : ∀ {i μ h μ' h'}, At i μ h → Up μ h μ' h' → (∀ b ∈ fp, ∀ o, h.get? b = some o → h'.get? b = some o) → At i μ' h'
  item : ∀ {i : Nat} {s : Shared} {μ : Mu} {σ : SH} {v : V} {Q : Option Value → Shared → Prop}, S.items[i]? = some v → At i μ s.heap → St prog w B μ σ s.heap → Apart B fp μ s.heap → S.still σ →
    (∀ h' tk x, Mid (i + 1) x μ h' → St prog w B μ σ h' → Ext fp μ s.heap μ h' → Apart B fp μ h' → Rv μ h' v x → Q (some x) { s with heap := h', toks := tk }) → wpAny (model prog w) A (pyNext (.ref I)) Q noE s
  done : ∀ {i : Nat} {s : Shared} {μ : Mu} {σ : SH} {Q : Option Value → Shared → Prop}, S.items[i]? = none → At i μ s.heap → St prog w B μ σ s.heap → Apart B fp μ s.heap → S.still σ →
    (∀ h' tk, (∀ b o, b ∉ fp → s.heap.get? b = some o → h'.get? b = some o) → Q none { s with heap := h', toks := tk }) → wpAny (model prog w) A (pyNext (.ref I)) Q noE s
  go : ∀ {i : Nat} {x : Value} {s : Shared} {μ : Mu} {σ : SH} {t : Expr} {Q : Unit → Shared → Prop}, S.okT t → Mid i x μ s.heap → St prog w B μ σ s.heap → Apart B fp μ s.heap →
    (∀ h', At i μ h' → St prog w B μ σ h' → Ext fp μ s.heap μ h' → Apart B fp μ h' → Q () { s with heap := h' }) → wpAny (model prog w) A (letOwnedTupleGo t (.ref I) x) Q noE s
  self : ∀ {i : Nat} {s : Shared} {μ : Mu} {Q : Value → Shared → Prop}, At i μ s.heap → Q (.ref I) s → wpAny (model prog w) A (pyIter (.ref I)) Q noE s

theorem letGo_quiet {t : Expr} {I : Addr} {x : Value} {o : Obj} {k : String} {Q : Unit → Shared → Prop} (e : s.heap.get? I = some o) (hc : o.cls = .type k)
    (hk : ["enumerate", "zip", "dict_itemiterator", "dict_reverseitemiterator", "odict_iterator", "itertools.zip_longest", "itertools.pairwise"].contains k = false) (h : Q () s) :
    wpAny (model prog w) A (letOwnedTupleGo t (.ref I) x) Q noE s := by
  obtain ⟨c, bs, dt⟩ := o
  cases hc
  have q : ∀ p, wpAny (model prog w) A (letOwnedTupleGo (.List [] p) (.ref I) x) Q noE s := fun p => by
    unfold letOwnedTupleGo
    cases x with
    | ref a =>
      refine wpAny_bind (wpAny_load e ?_)
      cases dt with
      | fields vs =>
        dsimp only
        rw [hk]
        exact wpAny_pure h
      | _ => exact wpAny_pure h
    | _ => exact wpAny_pure h
  cases t with
  | Tuple es k p => exact q p
  | List es p => exact q p
  | _ => exact wpAny_pure h

theorem one_own {I : Addr} {h' : Heap} {o' : Obj} (e' : h'.get? I = some o') (hc : o'.cls ≠ .type "tuple") : ∀ b ∈ [I], ∃ o, h'.get? b = some o ∧ o.cls ≠ .type "tuple" := fun b hb => by
  obtain rfl : b = I := by simpa using hb
  exact ⟨o', e', hc⟩
theorem but_one {I : Addr} {h h' : Heap} (hs : Heap.ExtBut I h h') : ∀ b o, b ∉ [I] → h.get? b = some o → h'.get? b = some o := fun b o hb e => hs b o (by simpa using hb) e
theorem ne_name {a b : String} (h : a ≠ b) : Value.type a ≠ .type b := fun e => by cases e; exact h rfl

theorem iter_tuple (hh : A.handled = none) (I t : Addr) (xs : Array Value) (m : Nat) (vs : List V) (hne : t ≠ I) :
    IterOk prog w B A (.fixed vs) I [I] (fun i μ h => h.IsTupleIter I t i ∧ h.get? t = some { cls := .type "tuple", data := .seq xs m } ∧ Rvs μ h vs xs.toList) (fun i _ μ h => h.IsTupleIter I t i ∧ h.get? t = some { cls := .type "tuple", data := .seq xs m } ∧ Rvs μ h vs xs.toList) where
  frame := fun {i μ h μ' h'} ⟨⟨o, e, r⟩, a, b⟩ u k => ⟨⟨o, k I (by simp) o e, r⟩, u.tup _ _ _ a, b.up u⟩
  item := fun {i s μ σ v Q} hv ⟨hi, ht, hr⟩ S P st hQ => by
    obtain ⟨y, hy, ry⟩ := at_arr hr hv
    refine wpAny_pyNext_tuple_item hi ⟨_, ht, rfl, _, rfl⟩ hy fun h' hi' hs => ?_
    obtain ⟨o', e', c', d'⟩ := id hi'
    obtain ⟨S', X', P'⟩ := own_step P (one_own e' (by rw [c']; exact ne_name (by decide))) (but_one hs.extBut) S
    exact hQ h' s.toks y ⟨hi', X'.tup _ _ _ ht, hr.up X'.up⟩ S' X' P' (ry.up X'.up)
  done := fun {i s μ σ Q} hv ⟨hi, ht, hr⟩ S P st hQ => by
    have hl : xs.size = vs.length := by rw [← hr.length]; simp
    refine wpAny_pyNext_tuple_end hh hi ⟨_, ht, rfl, _, rfl⟩ (by rw [Array.getElem?_eq_none]; rw [hl]; exact List.getElem?_eq_none_iff.mp hv) fun h' hs => hQ h' s.toks (but_one hs)
  go := fun {i x s μ σ t Q} _ ⟨hi, ht, hr⟩ S P hQ => by
    obtain ⟨o, e, c, d⟩ := id hi
    exact letGo_quiet e c (by decide) (hQ s.heap ⟨hi, ht, hr⟩ S (Ext.refl _ _ _) P)
  self := fun {i s μ Q} ⟨hi, _, _⟩ hQ => wpAny_pyIter_tupleiter hi hQ

theorem iter_list (hh : A.handled = none) (I : Addr) (k : Nat) (vs : List V) :
    IterOk prog w B A (.list k vs) I [I] (fun i μ h => ∃ a, μ[k]? = some (a, none) ∧ h.IsListIter I a i) (fun i _ μ h => ∃ a, μ[k]? = some (a, none) ∧ h.IsListIter I a i) where
  frame := fun {i μ h μ' h'} ⟨a, hm, o, e, r⟩ u q => ⟨a, u.mu _ _ hm, o, q I (by simp) o e, r⟩
  item := fun {i s μ σ v Q} hv ⟨a, hm, hi⟩ S P st hQ => by
    obtain ⟨a', m, xs, hm', e1, g, hr⟩ := rv_list S (x := .ref a) (by unfold Rv; exact ⟨(a, none), hm, rfl⟩) (st : σ[k]? = _)
    cases e1
    obtain ⟨y, hy, ry⟩ := at_arr hr hv
    refine wpAny_pyNext_list_item hi ⟨_, g, rfl, _, rfl⟩ hy fun h' hi' hs => ?_
    obtain ⟨o', e', c', d'⟩ := id hi'
    obtain ⟨S', X', P'⟩ := own_step P (one_own e' (by rw [c']; exact ne_name (by decide))) (but_one hs.extBut) S
    exact hQ h' s.toks y ⟨a, hm, hi'⟩ S' X' P' (ry.up X'.up)
  done := fun {i s μ σ Q} hv ⟨a, hm, hi⟩ S P st hQ => by
    obtain ⟨a', m, xs, hm', e1, g, hr⟩ := rv_list S (x := .ref a) (by unfold Rv; exact ⟨(a, none), hm, rfl⟩) (st : σ[k]? = _)
    cases e1
    have hl : xs.size = vs.length := by rw [← hr.length]; simp
    refine wpAny_pyNext_list_end hh hi ⟨_, g, rfl, _, rfl⟩ (by rw [Array.getElem?_eq_none]; rw [hl]; exact List.getElem?_eq_none_iff.mp hv) fun h' hs => hQ h' s.toks (but_one hs)
  go := fun {i x s μ σ t Q} _ ⟨a, hm, hi⟩ S P hQ => by
    obtain ⟨o, e, c, d⟩ := id hi
    exact letGo_quiet e c (by decide) (hQ s.heap ⟨a, hm, hi⟩ S (Ext.refl _ _ _) P)
  self := fun {i s μ Q} ⟨a, hm, hi⟩ hQ => wpAny_pyIter_listiter hi hQ

theorem intRow_len : ∀ n, (intRow n).length = n
  | 0 => rfl
  | n + 1 => by simp [intRow, intRow_len n]
theorem intRow_at : ∀ (n i : Nat), i < n → (intRow n)[i]? = some (.int i)
  | 0, i, h => absurd h (Nat.not_lt_zero i)
  | n + 1, i, h => by
    unfold intRow
    by_cases hi : i < n
    · rw [List.getElem?_append_left (by rw [intRow_len]; exact hi)]; exact intRow_at n i hi
    · obtain rfl : i = n := by omega
      rw [List.getElem?_append_right (by rw [intRow_len]; exact Nat.le_refl _), intRow_len, Nat.sub_self]; rfl

theorem iter_range (hh : A.handled = none) (I : Addr) (n : Nat) :
    IterOk prog w B A (.fixed (intRow n)) I [I] (fun i _ h => IsRangeIter h I (i : Int) ((n : Int) - i) 1) (fun i _ _ h => IsRangeIter h I (i : Int) ((n : Int) - i) 1) where
  frame := fun {i μ h μ' h'} e u q => q I (by simp) _ e
  item := fun {i s μ σ v Q} hv hi S P st hQ => by
    have hlt : i < n := by
      have := (List.getElem?_eq_some_iff.mp hv).1
      rwa [show (Src.fixed (intRow n)).items = intRow n from rfl, intRow_len] at this
    have hv' : v = .int i := by
      have := intRow_at n i hlt
      rw [show (Src.fixed (intRow n)).items = intRow n from rfl, this] at hv
      cases hv; rfl
    subst hv'
    refine wpAny_pyNext_range_item hi (by omega) fun h' hi' hs => ?_
    obtain ⟨S', X', P'⟩ := own_step P (one_own hi' (ne_name (by decide))) (but_one hs.extBut) S
    refine hQ h' _ _ ?_ S' X' P' (rv_int _ _)
    have e1 : ((i + 1 : Nat) : Int) = (i : Int) + 1 := by omega
    have e2 : (n : Int) - ((i + 1 : Nat) : Int) = (n : Int) - i - 1 := by omega
    rw [e1, show (n : Int) - ((i : Int) + 1) = (n : Int) - i - 1 by omega]
    exact hi'
  done := fun {i s μ σ Q} hv hi S P st hQ => by
    have : n ≤ i := by
      have := List.getElem?_eq_none_iff.mp hv
      rwa [show (Src.fixed (intRow n)).items = intRow n from rfl, intRow_len] at this
    exact wpAny_pyNext_range_end hh hi (by omega) fun h' hs => hQ h' s.toks (but_one hs)
  go := fun {i x s μ σ t Q} _ hi S P hQ => letGo_quiet hi rfl (by decide) (hQ s.heap hi S (Ext.refl _ _ _) P)
  self := fun {i s μ Q} hi hQ => wpAny_pyIter_rangeiter hi hQ

theorem pairRow_at : ∀ (vs : List V) (n i : Nat) (v : V), vs[i]? = some v → (pairRow n vs)[i]? = some (.tup [.int ((n + i : Nat) : Int), v])
  | [], _, _, _, h => by simp at h
  | u :: r, n, 0, v, h => by simp at h; subst h; simp [pairRow]
  | u :: r, n, i + 1, v, h => by
    have := pairRow_at r (n + 1) i v (by simpa using h)
    simp only [pairRow, List.getElem?_cons_succ, this]
    rw [show n + 1 + i = n + (i + 1) by omega]
theorem pairRow_len : ∀ (vs : List V) (n : Nat), (pairRow n vs).length = vs.length
  | [], _ => rfl
  | _ :: r, n => by simp [pairRow, pairRow_len r (n + 1)]

theorem isTup_is {t : Expr} (h : isTup t = true) : ∃ es k p, t = .Tuple es k p :=
  Expr.Tuple.elim (motive_1 := fun t => ∃ es k p, t = .Tuple es k p) t (kd_eq h) fun es k p => ⟨es, k, p, rfl⟩
theorem iter_enum (hh : A.handled = none) (I J : Addr) (k : Nat) (vs : List V) (hne : I ≠ J) :
    IterOk prog w B A (.enum k vs) I [I, J] (fun i μ h => (∃ old, IsEnum h I J (i : Int) old) ∧ ∃ a, μ[k]? = some (a, none) ∧ h.IsListIter J a i)
      (fun i x μ h => (∃ old b, x = .ref b ∧ IsEnumOut h I J (i : Int) old b) ∧ ∃ a, μ[k]? = some (a, none) ∧ h.IsListIter J a i) where
  frame := fun {i μ h μ' h'} ⟨⟨old, e1⟩, a, hm, o, e, r⟩ u q => ⟨⟨old, q I (by simp) _ e1⟩, a, u.mu _ _ hm, o, q J (by simp) o e, r⟩
  item := fun {i s μ σ v Q} hv ⟨⟨old, he⟩, a, hm, hi⟩ S P st hQ => by
    obtain ⟨a', m, xs, hm', e1, g, hr⟩ := rv_list S (x := .ref a) (by unfold Rv; exact ⟨(a, none), hm, rfl⟩) (st : σ[k]? = _)
    cases e1
    have hlt : i < vs.length := by
      have := (List.getElem?_eq_some_iff.mp hv).1
      rwa [show (Src.enum k vs).items = pairRow 0 vs from rfl, pairRow_len] at this
    have hv' := pairRow_at vs 0 i vs[i] (by simp)
    rw [show (Src.enum k vs).items = pairRow 0 vs from rfl, hv'] at hv
    cases hv
    obtain ⟨y, hy, ry⟩ := at_arr hr (j := i) (v := vs[i]) (by simp)
    refine wpAny_pyNext_enum_item he hi ⟨_, g, rfl, _, rfl⟩ hy hne fun h' he' hi' ht' hz' hk' => ?_
    obtain ⟨o', e', c', d'⟩ := id hi'
    obtain ⟨S', X', P'⟩ := own_step (h' := h') P (fun b hb => by
      rcases List.mem_cons.mp hb with rfl | hb
      · exact ⟨_, he', ne_name (by decide)⟩
      · obtain rfl : b = J := by simpa using hb
        exact ⟨o', e', by rw [c']; exact ne_name (by decide)⟩) (fun b o hb e => hk' b o (fun q => hb (by simp [q])) (fun q => hb (by simp [q])) e) S
    refine hQ h' _ _ ⟨⟨y, _, rfl, ?_⟩, a, hm, hi'⟩ S' X' P' ?_
    · rw [show ((i + 1 : Nat) : Int) = (i : Int) + 1 by omega]; exact he'
    · unfold Rv
      refine ⟨_, 0, _, rfl, ht', ?_⟩
      exact Rvs.cons (by rw [Nat.zero_add]; exact rv_int _ _) (Rvs.cons (ry.up X'.up) Rvs.nil)
  done := fun {i s μ σ Q} hv ⟨⟨old, he⟩, a, hm, hi⟩ S P st hQ => by
    obtain ⟨a', m, xs, hm', e1, g, hr⟩ := rv_list S (x := .ref a) (by unfold Rv; exact ⟨(a, none), hm, rfl⟩) (st : σ[k]? = _)
    cases e1
    have hl : xs.size = vs.length := by rw [← hr.length]; simp
    have hge : vs.length ≤ i := by
      have := List.getElem?_eq_none_iff.mp hv
      rwa [show (Src.enum k vs).items = pairRow 0 vs from rfl, pairRow_len] at this
    exact wpAny_pyNext_enum_end hh he hi ⟨_, g, rfl, _, rfl⟩ (by rw [Array.getElem?_eq_none]; rw [hl]; exact hge) fun h' hs => hQ h' s.toks fun b o hb e => hs b o (fun q => hb (by simp [q])) e
  go := fun {i x s μ σ t Q} ht ⟨⟨old, b, hx, he⟩, a, hm, hi⟩ S P hQ => by
    subst hx
    obtain ⟨es, kt, pt, rfl⟩ := isTup_is ht
    refine wpAny_letOwnedTupleGo_enum he fun h' he' hs => ?_
    replace hs : Heap.SameBut I s.heap h' := hs
    obtain ⟨o, e, c, d⟩ := id hi
    have e' : h'.get? J = some o := (hs.2 _ (Ne.symm hne)).trans e
    obtain ⟨S', X', P'⟩ := own_step (h' := h') P (fun b hb => by
      rcases List.mem_cons.mp hb with rfl | hb
      · exact ⟨_, he', ne_name (by decide)⟩
      · obtain rfl : b = J := by simpa using hb
        exact ⟨o, e', by rw [c]; exact ne_name (by decide)⟩) (fun b o hb e => (hs.2 b (fun q => hb (by simp [q]))).trans e) S
    exact hQ h' ⟨⟨old, he'⟩, a, hm, o, e', c, d⟩ S' X' P'
  self := fun {i s μ Q} ⟨⟨old, he⟩, _⟩ hQ => wpAny_pyIter_enum he hQ
end
end Sw

namespace Sw
open PySem PySem.Calls PyProof.Rows

section
variable {prog : Program} {w : World} {B : Heap} {mg mb : Str → Option Value} {A : Around} {s : Shared} {μ : Mu} {σ : SH} {n : Nat} {env : Env} {ρ : Loc} {r : Rec} {T : Tab} {fp ws : List Addr} {h : Heap}

/-- an iterator stands ready -/
noncomputable def Ready (prog : Program) (w : World) (B : Heap) (μ : Mu) (s : Shared) (K : Src → SH → Prop) (it : Value) (s₂ : Shared) : Prop :=
  ∃ Sr σ1 μ1 I fp At Mid, it = .ref I ∧ K Sr σ1 ∧ St prog w B μ1 σ1 s₂.heap ∧ Ext [] μ s.heap μ1 s₂.heap ∧ (∀ A', A'.handled = none → IterOk prog w B A' Sr I fp At Mid) ∧ At 0 μ1 s₂.heap ∧ Apart B fp μ1 s₂.heap ∧
    (∀ b ∈ fp, s.heap.get? b = none) ∧ Rest s s₂

theorem Ext.none {μ' : Mu} {h' : Heap} (X : Ext ws μ h μ' h') {b : Addr} (e : h'.get? b = none) : h.get? b = none := by
  cases q : h.get? b with
  | none => rfl
  | some o => obtain ⟨o', e'⟩ := X.live b o q; rw [e] at e'; cases e'
theorem get_size (h : Heap) : h.get? h.objs.size = none := by
  cases q : h.get? h.objs.size with
  | none => rfl
  | some o => exact absurd (Heap.lt_size q) (Nat.lt_irrefl _)

theorem push_apart (S : St prog w B μ σ h) {o : Obj} (hf : o.isFreed = false) (hc : o.cls ≠ .type "tuple") : Apart B [h.objs.size] μ (h.push o) := ⟨fun b hb => by
  obtain rfl : b = h.objs.size := by simpa using hb
  exact ⟨S.fresh.1, S.fresh.2, o, Heap.get?_push_size _ hf, hc⟩⟩

theorem ready_tup {K : Src → SH → Prop} {s0 : Shared} {μ0 : Mu} {vs : List V} {x : Value} (hK : K (.fixed vs) σ) (S : St prog w B μ σ s.heap) (X : Ext [] μ0 s0.heap μ s.heap) (Y : Rest s0 s) (rv : Rv μ s.heap (.tup vs) x) :
    wpAny (model prog w) A (pyIter x) (Ready prog w B μ0 s0 K) noE s := by
  unfold Rv at rv
  obtain ⟨a, n, xs, rfl, g, q⟩ := rv
  refine wpAny_pyIter_tuple ⟨_, g, rfl, _, rfl⟩ ?_
  have hne : a ≠ s.heap.objs.size := Nat.ne_of_lt (Heap.lt_size g)
  have X1 := ext_push [] μ s.heap { cls := .type "tuple_iterator", data := .fields #[.ref a, .int 0 0] }
  refine ⟨_, σ, μ, _, _, _, _, rfl, hK, S.push _, X.trans X1, fun A' hh => iter_tuple hh s.heap.objs.size a xs n vs hne, ⟨⟨_, Heap.get?_push_size _ rfl, rfl, rfl⟩, X1.tup _ _ _ g, q.up X1.up⟩, push_apart S rfl (ne_name (by decide)), fun b hb => ?_, Y.trans ⟨rfl, rfl, rfl⟩⟩
  obtain rfl : b = s.heap.objs.size := by simpa using hb
  exact X.none (get_size _)
theorem ready_list {K : Src → SH → Prop} {s0 : Shared} {μ0 : Mu} {k : Nat} {vs : List V} {x : Value} (hk : σ[k]? = some (.list vs)) (hK : K (.list k vs) σ) (S : St prog w B μ σ s.heap) (X : Ext [] μ0 s0.heap μ s.heap) (Y : Rest s0 s) (rv : Rv μ s.heap (.ref k) x) :
    wpAny (model prog w) A (pyIter x) (Ready prog w B μ0 s0 K) noE s := by
  obtain ⟨a, n, xs, hm, rfl, g, q⟩ := rv_list S rv hk
  refine wpAny_pyIter_list ⟨_, g, rfl, _, rfl⟩ ?_
  have X1 := ext_push [] μ s.heap { cls := .type "list_iterator", data := .fields #[.ref a, .int 0 0] }
  refine ⟨_, σ, μ, _, _, _, _, rfl, hK, S.push _, X.trans X1, fun A' hh => iter_list hh s.heap.objs.size k vs, ⟨a, hm, _, Heap.get?_push_size _ rfl, rfl, rfl⟩, push_apart S rfl (ne_name (by decide)), fun b hb => ?_, Y.trans ⟨rfl, rfl, rfl⟩⟩
  obtain rfl : b = s.heap.objs.size := by simpa using hb
  exact X.none (get_size _)

theorem srcOf_snd {K : Src → SH → Prop} {s0 : Shared} {μ0 : Mu} {v : V} {x : Value} (h : srcOf v σ fun S => K S σ) (S : St prog w B μ σ s.heap) (X : Ext [] μ0 s0.heap μ s.heap) (Y : Rest s0 s) (rv : Rv μ s.heap v x) :
    wpAny (model prog w) A (pyIter x) (Ready prog w B μ0 s0 K) noE s := by
  cases v with
  | tup vs => exact ready_tup h S X Y rv
  | ref k =>
    obtain ⟨o, e, h⟩ := oP_is h
    cases o with
    | list vs => exact ready_list e h S X Y rv
    | _ => exact h.elim
  | _ => exact h.elim

theorem small_range {n : Int} (h : n ≤ 1000) (h0 : 0 ≤ n) : Builtin.Range.small 0 n 1 = true := by
  have e : Builtin.Range.rangeSize 0 n 1 = n := by rw [rangeSize_nat]; omega
  unfold Builtin.Range.small
  rw [e]
  simp only [Builtin.Range.rangeFitsLong, Bool.and_eq_true, Bool.or_eq_true, decide_eq_true_eq]
  refine ⟨⟨⟨⟨?_, ?_⟩, ?_⟩, ?_⟩, .inr ?_⟩
  · decide
  · exact ⟨by omega, by omega⟩
  · decide
  · exact ⟨by omega, by omega⟩
  · rw [if_pos (by decide)]
    simp only [Bool.and_eq_true, decide_eq_true_eq]
    exact ⟨by omega, by omega⟩
end
end Sw

namespace Sw
open PySem PySem.Calls PyProof.Rows

noncomputable def lcR (B : Heap) (env : Env) : Mu → Heap → Loc → Unit → Prop := fun μ h ρ _ => Fm B env ρ μ h

section
variable {prog : Program} {w : World} {B : Heap} {mg mb : Str → Option Value} {A : Around} {s : Shared} {μ : Mu} {σ : SH} {n : Nat} {env : Env} {ρ : Loc} {r : Rec} {T : Tab} {fp ws : List Addr} {h : Heap}

theorem asg1_snd (G : Gr prog w B mg mb) (R : Snd prog w B n r) (hR : Room n A) {t : Expr} {v : V} {x : Value} {K : Loc → SH → Prop} (h : asg1 r t v ρ σ K) (S : St prog w B μ σ s.heap) (F : Fm B env ρ μ s.heap) (rv : Rv μ s.heap v x) :
    wpAny (model prog w) A (assign t env x) (Post prog w B (lcR B env) (wsOf env) μ s K) noE s := by
  cases t with
  | Name y p =>
    obtain ⟨h1, h2⟩ := ck.and h
    exact wpAny_assign_Name (store_snd h1 S F rv fun h' tk S' F' X' => ⟨_, σ, μ, h2, S', X', F', ⟨rfl, rfl, rfl⟩⟩)
  | Attribute o a p =>
    show wpAny _ _ (do
      let ov ← holding [x] (eval o env)
      standAt p.atName
      holding [x, ov] (setAttr ov a x)
      release [x, ov] []) _ _ _
    refine wpAny_bind (wpAny_holding (wp_then (R.e hR h S F) fun ov ox σ1 μ1 s1 hK S1 X1 r1 Y1 => wpAny_bind (wpAny_standAt (wpAny_bind (wpAny_holding (wp_then (setA_snd G hK S1 r1 (rv.up X1.up)) fun _ _ σ2 μ2 s2 hK2 S2 X2 _ Y2 => wpAny_release ?_))))))
    exact ⟨ρ, σ2, μ2, hK2, S2, (X1.trans X2).nil, F.ext (X1.trans X2), Y1.trans Y2⟩
  | Subscript o i p =>
    have h := (ck.and h).2
    rw [arm_assign_Subscript]
    refine wpAny_bind (wpAny_holding (wp_then (R.e hR h S F) fun ov ox σ1 μ1 s1 hK S1 X1 r1 Y1 => wpAny_bind (wpAny_holding (wp_then (R.e hR hK S1 (F.ext X1)) fun iv ix σ2 μ2 s2 hK2 S2 X2 r2 Y2 =>
      wpAny_bind (wpAny_standAt (wpAny_bind (wpAny_holding (wp_then (setI_snd hR hK2 S2 (r1.up X2.up) r2 ((rv.up X1.up).up X2.up)) fun _ _ σ3 μ3 s3 hK3 S3 X3 _ Y3 => wpAny_release ?_))))))))
    have X := (X1.trans X2).trans X3
    exact ⟨ρ, σ3, μ3, hK3, S3, X.nil, F.ext X, (Y1.trans Y2).trans Y3⟩
  | _ => exact h.elim

theorem assignEach_plain {t : Expr} {ts : List Expr} (h : ∀ a p, t ≠ .Starred a p) : assignEach (t :: ts) env = (false, assign t env) :: assignEach ts env := by
  cases t <;> first | rfl | exact absurd rfl (h _ _)
theorem assignEach_len : ∀ {ts : List Expr}, noStar ts = true → (assignEach ts env).length = ts.length ∧ (assignEach ts env).findIdx? (·.1) = none
  | [], _ => ⟨rfl, rfl⟩
  | t :: ts, h => by
    obtain ⟨h1, h2⟩ := noStar_cons h
    obtain ⟨a, b⟩ := assignEach_len h2
    rw [assignEach_plain h1]
    refine ⟨by simp [a], ?_⟩
    simp only [List.findIdx?_cons, b]
    rfl

theorem asgs_snd (G : Gr prog w B mg mb) (R : Snd prog w B n r) (hR : Room n A) : ∀ {ts : List Expr} {vs : List V} {xs : List Value} {s : Shared} {μ : Mu} {σ : SH} {ρ : Loc} {K : Loc → SH → Prop}, noStar ts = true → asgs r ts vs ρ σ K → St prog w B μ σ s.heap → Fm B env ρ μ s.heap → Rvs μ s.heap vs xs →
    wpAny (model prog w) A (assignInOrder ((assignEach ts env).map (·.2)) xs) (Post prog w B (lcR B env) (wsOf env) μ s K) noE s
  | [], [], xs, s, μ, σ, ρ, K, hs, h, S, F, rv => by
    unfold Rvs at rv
    subst rv
    exact wpAny_pure (Post.here S F h)
  | [], _ :: _, _, _, _, _, _, _, _, h, _, _, _ => h.elim
  | _ :: _, [], _, _, _, _, _, _, _, h, _, _, _ => h.elim
  | t :: ts, v :: vs, xs, s, μ, σ, ρ, K, hs, h, S, F, rv => by
    obtain ⟨h1, h2⟩ := noStar_cons hs
    unfold Rvs at rv
    obtain ⟨y, ys, rfl, rv, rvs⟩ := rv
    have h : asg1 r t v ρ σ fun ρ1 σ1 => asgs r ts vs ρ1 σ1 K := h
    rw [assignEach_plain h1]
    show wpAny _ _ (do holding ys (assign t env y); assignInOrder ((assignEach ts env).map (·.2)) ys) _ _ _
    refine wpAny_bind (wpAny_holding (wp_then (asg1_snd G R hR h S F rv) fun ρ1 _ σ1 μ1 s1 hK S1 X1 F1 Y1 => ?_))
    exact wp_back X1 Y1 (asgs_snd G R hR h2 hK S1 F1 (rvs.up X1.up))

theorem draw_list {it l : Addr} {items : Array Value} (hne : l ≠ it) : ∀ (n i : Nat) (s : Shared) (Q : List Value → Shared → Prop), s.heap.IsListIter it l i → s.heap.IsList l items → i + n ≤ items.size →
    (∀ h', h'.IsListIter it l (i + n) → Heap.SameBut it s.heap h' → Q ((items.toList.drop i).take n) { s with heap := h' }) → wpAny (model prog w) A (draw (.ref it) n) Q noE s
  | 0, i, s, Q, hit, _, _, hQ => by
    show wpAny _ _ (pure []) Q noE s
    exact wpAny_pure (by simpa using hQ s.heap hit (Heap.SameBut.refl ..))
  | n + 1, i, s, Q, hit, ht, hle, hQ => by
    have hlt : i < items.size := by omega
    show wpAny _ _ (pyNext (.ref it) >>= _) Q noE s
    refine wpAny_bind (wpAny_pyNext_list_item hit ht (x := items[i]) (by simp [hlt]) fun h₁ hit₁ hs₁ => ?_)
    refine wpAny_bind (wpAny_holding (draw_list hne n (i + 1) _ _ hit₁ (ht.extBut hs₁.extBut hne) (by omega) fun h₂ hit₂ hs₂ => wpAny_pure ?_))
    have hd : items.toList.drop i = items[i] :: items.toList.drop (i + 1) := by simp [List.drop_eq_getElem_cons, hlt]
    have := hQ h₂ (by rw [show i + (n + 1) = i + 1 + n by omega]; exact hit₂) (hs₁.trans hs₂)
    rw [hd, List.take_succ_cons] at this
    exact this

theorem unpackItems_list {l : Addr} {items : Array Value} {Q : List Value → Shared → Prop} (hh : A.handled = none) (ht : s.heap.IsList l items)
    (hQ : ∀ h', Heap.ExtBut s.heap.objs.size s.heap h' → Q items.toList { s with heap := h' }) : wpAny (model prog w) A (unpackItems (.ref l) items.size none) Q noE s := by
  have hlt : l ≠ s.heap.objs.size := by obtain ⟨o, ho, _⟩ := ht; exact Nat.ne_of_lt (Heap.lt_size ho)
  unfold unpackItems
  refine wpAny_bind ?_
  · unfold notIterableAtAll
    refine wpAny_bind (wpAny_specialOf ht.typeIs slot_list_iter.lookup ?_)
    refine wpAny_pure ?_
    simp only [Bool.false_eq_true, if_false]
    refine wpAny_bind (wpAny_holding (wpAny_pyIter_list ht ?_))
    refine wpAny_bind (wpAny_holding (draw_list hlt items.size 0 _ _ ⟨_, Heap.get?_push_size _ rfl, rfl, rfl⟩ (ht.push _) (by omega) fun h₁ hit₁ hs₁ => ?_))
    have hall : List.take items.size (List.drop 0 items.toList) = items.toList := by
      rw [List.drop_zero]; exact List.take_of_length_le (by simp)
    rw [hall]
    rw [if_neg (by simp)]
    have ht₁ : h₁.IsList l items := (ht.push _).extBut hs₁.extBut hlt
    refine wpAny_bind (wpAny_holding (wpAny_pyNext_list_end hh hit₁ ht₁ (by simp) fun h₂ he₂ => ?_))
    simp only [Option.isSome_none, Bool.false_eq_true, if_false]
    refine wpAny_pure (hQ h₂ fun b o hb e => he₂ b o hb (hs₁.extBut b o hb (Heap.get?_push_of_some _ e)))

theorem keep_of_fresh {h' : Heap} (k : Heap.ExtBut h.objs.size h h') : ∀ b o, h.get? b = some o → h'.get? b = some o := fun b o e => k b o (Nat.ne_of_lt (Heap.lt_size e)) e

theorem asgW_snd (G : Gr prog w B mg mb) (R : Snd prog w B n r) (hR : Room n A) {t : Expr} {v : V} {x : Value} {K : Loc → SH → Prop} (h : asgW r t v ρ σ K) (S : St prog w B μ σ s.heap) (F : Fm B env ρ μ s.heap) (rv : Rv μ s.heap v x) :
    wpAny (model prog w) A (assign t env x) (Post prog w B (lcR B env) (wsOf env) μ s K) noE s := by
  have h : (match tupE t with
    | some es => asgV r es v ρ σ K
    | none => asg1 r t v ρ σ K) := h
  revert h
  cases q : tupE t with
  | none => exact fun h => asg1_snd G R hR h S F rv
  | some es =>
    intro h
    obtain ⟨k, p, rfl⟩ := tupE_is q
    cases v with
    | tup vs =>
      obtain ⟨⟨hl, hs⟩, h⟩ := ck.and h
      unfold Rv at rv
      obtain ⟨a, m, xs, rfl, g, q⟩ := rv
      obtain ⟨e1, e2⟩ := assignEach_len (env := env) hs
      have hx : xs.size = vs.length := by rw [← q.length]; simp
      refine wpAny_assign_Tuple hR.handled ⟨_, g, rfl, _, rfl⟩ (by rw [e1, hx, hl]) e2 fun h' he => ?_
      have k' := keep_of_fresh he
      have X := ext_of_keep [] μ k'
      exact wp_back (s₁ := { s with heap := h' }) X.nil ⟨rfl, rfl, rfl⟩ (asgs_snd (s := { s with heap := h' }) G R hR hs h (S.kept k') (F.ext X) (q.up X.up))
    | ref j =>
      obtain ⟨o, hk, h⟩ := oP_is (o := σ[j]?) h
      cases o with
      | list vs =>
        obtain ⟨⟨hl, hs⟩, h⟩ := ck.and h
        obtain ⟨a, m, xs, hm, rfl, g, q⟩ := rv_list S rv hk
        obtain ⟨e1, e2⟩ := assignEach_len (env := env) hs
        have hx : xs.size = vs.length := by rw [← q.length]; simp
        rw [arm_assign_Tuple]
        refine wpAny_bind (wpAny_standAt ?_)
        unfold unpack
        rw [e1, e2, ← hl, ← hx]
        refine wpAny_bind (wpAny_holding (unpackItems_list hR.handled ⟨_, g, rfl, _, rfl⟩ fun h' he => ?_))
        have k' := keep_of_fresh he
        have X := ext_of_keep [] μ k'
        exact wp_back (s₁ := { s with heap := h' }) X.nil ⟨rfl, rfl, rfl⟩ (asgs_snd (s := { s with heap := h' }) G R hR hs h (S.kept k') (F.ext X) (q.up X.up))
      | _ => exact h.elim
    | _ => exact h.elim

theorem exs_snd (R : Snd prog w B n r) (hR : Room n A) : ∀ {ss : List Stmt} {s : Shared} {μ : Mu} {σ : SH} {ρ : Loc} {K : KS}, exs r ss ρ σ K → St prog w B μ σ s.heap → Fm B env ρ μ s.heap →
    wpAny (model prog w) A (execs ss env) (Post prog w B (stR B env) (wsOf env) μ s (un K)) noE s
  | [], s, μ, σ, ρ, K, h, S, F => wpAny_execs_nil (Post.here (R := stR B env) (v := (Fl.next, ρ)) S ⟨rfl, F⟩ h)
  | st :: ss, s, μ, σ, ρ, K, h, S, F => by
    have h : r.s st ρ σ fun f ρ1 σ1 => match f with
      | .next => exs r ss ρ1 σ1 K
      | f => K f ρ1 σ1 := h
    refine wpAny_execs_cons (wp_then (R.s hR h S F) fun p f σ1 μ1 s1 hK S1 X1 r1 Y1 => ?_)
    obtain ⟨fl, ρ1⟩ := p
    obtain ⟨hf, F1⟩ := r1
    cases fl with
    | next =>
      obtain rfl : f = .next := hf
      exact wp_back X1 Y1 (exs_snd R hR hK S1 F1)
    | brk =>
      obtain rfl : f = .brk := hf
      exact (Post.here (R := stR B env) (K := un K) (v := (Fl.brk, ρ1)) S1 ⟨rfl, F1⟩ hK).back X1 Y1
    | cont =>
      obtain rfl : f = .cont := hf
      exact (Post.here (R := stR B env) (K := un K) (v := (Fl.cont, ρ1)) S1 ⟨rfl, F1⟩ hK).back X1 Y1
    | ret v =>
      obtain ⟨x, rfl, rx⟩ := hf
      exact (Post.here (R := stR B env) (K := un K) (v := (Fl.ret v, ρ1)) S1 ⟨⟨x, rfl, rx⟩, F1⟩ hK).back X1 Y1
end
end Sw

namespace Sw
open PySem PySem.Calls PyProof.Rows

section
variable {prog : Program} {w : World} {B : Heap} {mg mb : Str → Option Value} {A : Around} {s : Shared} {μ : Mu} {σ : SH} {n : Nat} {env : Env} {ρ : Loc} {r : Rec} {T : Tab} {fp ws : List Addr} {h : Heap}

theorem arg1 {f : Value} {a : Expr} {pos : Pos} {Q : Args → Shared → Prop} (hs : noStar [a] = true) (h : wpAny (model prog w) A (eval a env) (fun v s₁ => Q ⟨[v], []⟩ s₁) noE s) :
    wpAny (model prog w) A (evalArgs f true (backTo pos (starEach [a] env)) []) Q noE s := by
  rw [starEach_plain (noStar_cons hs).1]
  exact evalArgs_plain (spliced_cons (wpAny_mono h (fun v s₁ q => spliced_nil q) fun _ _ e => e))

theorem range_ready {v : V} {x : Value} {s1 : Shared} {μ1 : Mu} {σ1 : SH} {K : Src → SH → Prop} (hK : rangeW v σ1 K) (S1 : St prog w B μ1 σ1 s1.heap) (X1 : Ext [] μ s.heap μ1 s1.heap) (Y1 : Rest s s1) (r1 : Rv μ1 s1.heap v x) :
    wpAny (model prog w) A (call (.type "range") [x]) (fun x s₁ => wpAny (model prog w) A (pyIter x) (Ready prog w B μ s K) noE s₁) noE s1 := by
  cases v with
  | int m =>
    obtain ⟨⟨h0, h1⟩, hK⟩ := hK
    unfold Rv at r1
    obtain ⟨t, rfl⟩ := r1
    obtain ⟨m, rfl⟩ := Int.eq_ofNat_of_zero_le h0
    refine call_range_1 ?_
    have S2 := S1.push { cls := .type "range", data := .fields #[.int 0 s1.toks, .int m t, .int 1 (s1.toks + 1)] }
    have X2 := ext_push [] μ1 s1.heap { cls := .type "range", data := .fields #[.int 0 s1.toks, .int m t, .int 1 (s1.toks + 1)] }
    refine wpAny_pyIter_range (a := 0) (b := m) (c := 1) (Heap.get?_push_size _ rfl) (small_range h1 h0) ?_
    have e2 : Builtin.Range.rangeSize 0 (m : Int) 1 = (m : Int) := by rw [rangeSize_nat]; omega
    rw [e2]
    refine ⟨_, σ1, μ1, _, _, _, _, rfl, hK, S2.push _, (X1.trans X2).trans (ext_push _ _ _ _), fun A' hh => iter_range hh _ m, ?_, push_apart S2 rfl (ne_name (by decide)), fun b hb => ?_, Y1.trans ⟨rfl, rfl, rfl⟩⟩
    · show Heap.get? _ _ = _
      rw [Heap.get?_push_size _ rfl]
      simp
    · obtain rfl := List.mem_singleton.mp hb
      exact (X1.trans X2).none (get_size _)
  | _ => exact hK.elim
theorem enum_ready {v : V} {x : Value} {s1 : Shared} {μ1 : Mu} {σ1 : SH} {K : Src → SH → Prop} (hK : enumW v σ1 K) (S1 : St prog w B μ1 σ1 s1.heap) (X1 : Ext [] μ s.heap μ1 s1.heap) (Y1 : Rest s s1) (r1 : Rv μ1 s1.heap v x) :
    wpAny (model prog w) A (call (.type "enumerate") [x]) (fun x s₁ => wpAny (model prog w) A (pyIter x) (Ready prog w B μ s K) noE s₁) noE s1 := by
  cases v with
  | ref k =>
    obtain ⟨o, hk, hK⟩ := oP_is (o := σ1[k]?) hK
    cases o with
    | list vs =>
      obtain ⟨a', m, xs, hm, rfl, g, q⟩ := rv_list S1 r1 hk
      refine call_enumerate_list ⟨_, g, rfl, _, rfl⟩ fun h' he hi hz hk' => ?_
      refine wpAny_pyIter_enum he ?_
      have X2 : Ext [] μ1 s1.heap μ1 h' := ext_of_keep _ _ hk'
      obtain ⟨oi, ei, ci, di⟩ := id hi
      have nB : ∀ b, s1.heap.objs.size ≤ b → b ∉ fpOf μ1 ∧ B.get? b = none := fun b hb => ⟨fun hm => absurd (S1.lt b hm) (Nat.not_lt.mpr hb), by
        cases q : B.get? b with
        | none => rfl
        | some o => exact absurd (Heap.lt_size (S1.keep _ _ q)) (Nat.not_lt.mpr hb)⟩
      refine ⟨_, σ1, μ1, _, _, _, _, rfl, hK, S1.kept hk', X1.trans X2, fun A' hh => iter_enum hh _ _ k vs (Nat.succ_ne_self _), ⟨⟨_, he⟩, a', hm, hi⟩, ⟨fun b hb => ?_⟩, fun b hb => ?_, Y1.trans ⟨rfl, rfl, rfl⟩⟩
      · rcases List.mem_cons.mp hb with rfl | hb
        · exact ⟨(nB _ (Nat.le_succ _)).1, (nB _ (Nat.le_succ _)).2, _, he, ne_name (by decide)⟩
        · obtain rfl := List.mem_singleton.mp hb
          exact ⟨(nB _ (Nat.le_refl _)).1, (nB _ (Nat.le_refl _)).2, _, ei, by rw [ci]; exact ne_name (by decide)⟩
      · have : s1.heap.get? b = none := by
          rcases List.mem_cons.mp hb with rfl | hb
          · exact Heap.get?_none_of_le (Nat.le_succ _)
          · obtain rfl := List.mem_singleton.mp hb
            exact get_size _
        exact X1.none this
    | _ => exact hK.elim
  | _ => exact hK.elim

theorem srcW_snd (G : Gr prog w B mg mb) (R : Snd prog w B n r) (hR : Room n A) {e : Expr} {K : Src → SH → Prop} (h : srcW r e ρ σ K) (S : St prog w B μ σ s.heap) (F : Fm B env ρ μ s.heap) :
    wpAny (model prog w) A (eval e env) (fun x s₁ => wpAny (model prog w) A (pyIter x) (Ready prog w B μ s K) noE s₁) noE s ∧ notSet e = true := by
  have h : (match callO e with
    | some p => callOW r e p.1 p.2 ρ σ K
    | none => notSet e = true ∧ r.e e ρ σ fun v σ1 => srcOf v σ1 fun S => K S σ1) := h
  revert h
  cases q : callO e with
  | none => exact fun h => ⟨wp_then (R.e hR h.2 S F) fun v x σ1 μ1 s1 hK S1 X1 r1 Y1 => srcOf_snd hK S1 X1 Y1 r1, h.1⟩
  | some p =>
    intro h
    obtain ⟨f, a⟩ := p
    obtain ⟨fp, pos, rfl⟩ := callO_is q
    refine ⟨?_, rfl⟩
    have h : (if f = ("range" : Str) then (isGlo ρ f = true ∧ noStar [a] = true) ∧ r.e a ρ σ fun v σ1 => rangeW v σ1 K
      else if f = ("enumerate" : Str) then (isGlo ρ f = true ∧ noStar [a] = true) ∧ r.e a ρ σ fun v σ1 => enumW v σ1 K
      else r.e (.Call (.Name f fp) [a] [] pos) ρ σ fun v σ1 => srcOf v σ1 fun S => K S σ1) := h
    by_cases hf : f = ("range" : Str)
    · rw [if_pos hf] at h
      subst hf
      obtain ⟨⟨hg, hs⟩, h⟩ := h
      obtain ⟨h0, h1⟩ := G.free "range" (by decide)
      refine Call_Name rfl (blt_snd G S F hg h0 (h1.trans boot_range) (by decide) ?_)
      exact PyProof.Rows.callWith_type (noStar_any pos hs) (arg1 hs (wp_then (R.e hR h S F) fun v x σ1 μ1 s1 hK S1 X1 r1 Y1 => range_ready hK S1 X1 Y1 r1))
    · rw [if_neg hf] at h
      by_cases hf : f = ("enumerate" : Str)
      · rw [if_pos hf] at h
        subst hf
        obtain ⟨⟨hg, hs⟩, h⟩ := h
        obtain ⟨h0, h1⟩ := G.free "enumerate" (by decide)
        refine Call_Name rfl (blt_snd G S F hg h0 (h1.trans boot_enumerate) (by decide) ?_)
        exact PyProof.Rows.callWith_type (noStar_any pos hs) (arg1 hs (wp_then (R.e hR h S F) fun v x σ1 μ1 s1 hK S1 X1 r1 Y1 => enum_ready hK S1 X1 Y1 r1))
      · rw [if_neg hf] at h
        exact wp_then (R.e hR h S F) fun v x σ1 μ1 s1 hK S1 X1 r1 Y1 => srcOf_snd hK S1 X1 Y1 r1

theorem notSet_folded {e : Expr} (h : notSet e = true) (env : Env) (x : Value) : foldedSetIterable e env x = pure x := by
  cases e <;> first | rfl | cases h

theorem Fm.other {h' : Heap} (F : Fm B env ρ μ h) (k : ∀ b ∈ wsOf env, ∀ o, h.get? b = some o → h'.get? b = some o) (u : Up μ h μ h') : Fm B env ρ μ h' where
  kind := F.kind
  names := F.names
  glo := F.glo
  blt := F.blt
  ns := by
    obtain ⟨m, ⟨o, es, ep, e, r⟩, hm⟩ := F.ns
    exact ⟨m, ⟨o, es, ep, k _ List.mem_cons_self _ e, r⟩, fun x v hx hl => by obtain ⟨y, h1, h2⟩ := hm x v hx hl; exact ⟨y, h1, h2.up u⟩⟩
  cell := fun x hx => by
    obtain ⟨c, y, h1, ⟨o, h2, h3⟩, h4⟩ := F.cell x hx
    exact ⟨c, y, h1, ⟨o, k _ (List.mem_cons_of_mem _ (List.mem_map.mpr ⟨(x, c), mem_lookup h1, rfl⟩)) _ h2, h3⟩, fun v hv => by obtain ⟨z, q1, q2⟩ := h4 v hv; exact ⟨z, q1, q2.up u⟩⟩
  celln := F.celln
  kinds := F.kinds
  apL := F.apL
  apC := F.apC
  inj := F.inj
  newL := F.newL
  newC := F.newC
  cl := F.cl

theorem Fm.live (F : Fm B env ρ μ h) : ∀ b ∈ wsOf env, ∃ o, h.get? b = some o := fun b hb => by
  rcases List.mem_cons.mp hb with rfl | hb
  · exact F.liveL
  · obtain ⟨p, hp, rfl⟩ := List.mem_map.mp hb
    exact F.liveC (F.cl p hp)
end
end Sw

namespace Sw
open PySem PySem.Calls PyProof.Rows

section
variable {prog : Program} {w : World} {B : Heap} {mg mb : Str → Option Value} {A : Around} {s : Shared} {μ : Mu} {σ : SH} {n : Nat} {env : Env} {ρ : Loc} {r : Rec} {T : Tab} {fp ws : List Addr} {h : Heap}

/-- the state between two turns of a for loop -/
noncomputable def Turn (prog : Program) (w : World) (B : Heap) (env : Env) (μ : Mu) (s : Shared) (At : Nat → Mu → Heap → Prop) (fp : List Addr) (L : List V → Loc → SH → Prop) (items : List V) (k : Nat) (s' : Shared) : Prop :=
  ∃ i σ' μ' ρ', k = items.length - i ∧ L (items.drop i) ρ' σ' ∧ St prog w B μ' σ' s'.heap ∧ Fm B env ρ' μ' s'.heap ∧ Ext (wsOf env) μ s.heap μ' s'.heap ∧ At i μ' s'.heap ∧ Apart B fp μ' s'.heap ∧ Rest s s'

theorem sub_ws {ws' : List Addr} {μ' : Mu} {h' : Heap} (X : Ext ws μ h μ' h') (hs : ∀ b ∈ ws, b ∈ ws') : Ext ws' μ h μ' h' := X.mono hs

/-- the loop's own objects are new: a step that writes only them is a step that writes nothing -/
theorem own_trans {ws : List Addr} {μ0 μ' : Mu} {h0 h' : Heap} (X : Ext ws μ0 h0 μ h) (Y : Ext fp μ h μ' h') (hf : ∀ b ∈ fp, h0.get? b = none) : Ext ws μ0 h0 μ' h' where
  pre := by
    obtain ⟨a, rfl⟩ := X.pre
    obtain ⟨b, rfl⟩ := Y.pre
    exact ⟨a ++ b, by simp⟩
  keep := fun b o e h1 h2 => by
    refine Y.keep b o (X.keep b o e h1 h2) (fun hm => ?_) fun hm => by rw [hf b hm] at e; cases e
    rcases X.new b hm with q | q
    · exact h1 q
    · rw [e] at q; cases q
  tup := fun a xs n e => Y.tup a xs n (X.tup a xs n e)
  new := fun b hb => by
    rcases Y.new b hb with q | q
    · exact X.new b q
    · exact .inr (X.none q)
  live := fun b o e => by
    obtain ⟨o', e'⟩ := X.live b o e
    exact Y.live b o' e'

theorem Fm.fp_ne (F : Fm B env ρ μ h) (hw : ∀ b ∈ wsOf env, b ∉ ws) {μ' : Mu} {h' : Heap} (X : Ext ws μ h μ' h') : ∀ b ∈ wsOf env, ∀ o, h.get? b = some o → h'.get? b = some o := fun b hb o e =>
  X.keep b o e (fun hm => by
    rcases List.mem_cons.mp hb with rfl | hb
    · exact F.apL hm
    · obtain ⟨p, hp, rfl⟩ := List.mem_map.mp hb
      exact (F.apC _ _ (F.cl p hp)).1 hm) (hw b hb)

/-- a turn's item, taken and let go -/
theorem IterOk.turn {Sr : Src} {I : Addr} {At : Nat → Mu → Heap → Prop} {Mid : Nat → Value → Mu → Heap → Prop} (It : IterOk prog w B A Sr I fp At Mid) {t : Expr} (ht : Sr.okT t) {i : Nat} {v : V} {Q : Option Value → Shared → Prop} {E : Value → Shared → Prop} (hv : Sr.items[i]? = some v)
    (a : At i μ s.heap) (S : St prog w B μ σ s.heap) (P : Apart B fp μ s.heap) (st : Sr.still σ)
    (hQ : ∀ x s₁, (∀ {Q' : Unit → Shared → Prop}, (∀ s₂, At (i + 1) μ s₂.heap → St prog w B μ σ s₂.heap → Ext fp μ s.heap μ s₂.heap → Apart B fp μ s₂.heap → Rv μ s₂.heap v x → Rest s s₂ → Q' () s₂) →
      wpAny (model prog w) A (letOwnedTupleGo t (.ref I) x) Q' E s₁) → Q (some x) s₁) : wpAny (model prog w) A (pyNext (.ref I)) Q E s :=
  wpAny_mono (It.item hv a S P st fun _ _ x m S1 X1 P1 rv => hQ x _ fun hq => wpAny_mono (It.go ht m S1 P1 fun h₂ a2 S2 X2 P2 => hq _ a2 S2 (X1.trans X2) P2 (rv.up X2.up) ⟨rfl, rfl, rfl⟩) (fun _ _ q => q) fun _ _ e => e.elim) (fun _ _ q => q) fun _ _ e => e.elim

/-- the end of a loop's iterator -/
theorem IterOk.over {Sr : Src} {I : Addr} {At : Nat → Mu → Heap → Prop} {Mid : Nat → Value → Mu → Heap → Prop} (It : IterOk prog w B A Sr I fp At Mid) {i : Nat} {Q : Option Value → Shared → Prop} {E : Value → Shared → Prop} {μ0 : Mu} {h0 : Heap} (hv : Sr.items[i]? = none)
    (a : At i μ s.heap) (S : St prog w B μ σ s.heap) (P : Apart B fp μ s.heap) (st : Sr.still σ) (hf : ∀ b ∈ fp, h0.get? b = none) (X : Ext ws μ0 h0 μ s.heap) (F : Fm B env ρ μ s.heap) (hw : ∀ b ∈ fp, b ∉ wsOf env)
    (hQ : ∀ s₁, St prog w B μ σ s₁.heap → Ext ws μ0 h0 μ s₁.heap → Fm B env ρ μ s₁.heap → Rest s s₁ → (∀ b o, b ∉ fp → s.heap.get? b = some o → s₁.heap.get? b = some o) → Up μ s.heap μ s₁.heap → Q none s₁) : wpAny (model prog w) A (pyNext (.ref I)) Q E s :=
  wpAny_mono (It.done hv a S P st (Q := Q) fun h' tk k' => by
    obtain ⟨S2, X2⟩ := own_end P hf k' S X
    have u : Up μ s.heap μ h' := ⟨fun a xs n e => k' a _ (fun hm => by obtain ⟨_, _, o, q, hc⟩ := P.ap a hm; exact not_tup q hc e) e, fun _ _ e => e⟩
    exact hQ { s with heap := h', toks := tk } S2 X2 (F.other (fun b hb o e => k' b o (fun hm => hw b hm hb) e) u) ⟨rfl, rfl, rfl⟩ k' u) (fun _ _ q => q) fun _ _ e => e.elim

theorem drop_at {vs : List V} {i : Nat} {v : V} (h : vs[i]? = some v) : i < vs.length ∧ vs.drop i = v :: vs.drop (i + 1) := by
  obtain ⟨hl, e⟩ := List.getElem?_eq_some_iff.mp h
  exact ⟨hl, by rw [List.drop_eq_getElem_cons hl, e]⟩

theorem loop_snd (G : Gr prog w B mg mb) (R : Snd prog w B n r) (hR : Room n A) {t : Expr} {body : List Stmt} {Sr : Src} {K : KS} {I : Addr} {At : Nat → Mu → Heap → Prop} {Mid : Nat → Value → Mu → Heap → Prop}
    (It : IterOk prog w B A Sr I fp At Mid) (ht : Sr.okT t) {s₂ : Shared} {μ₂ : Mu} (hf : ∀ b ∈ fp, s.heap.get? b = none) (hw : ∀ b ∈ fp, b ∉ wsOf env)
    (h : loopW r t body Sr.still Sr.items ρ σ K) (S : St prog w B μ₂ σ s₂.heap) (F : Fm B env ρ μ₂ s₂.heap) (X : Ext (wsOf env) μ s.heap μ₂ s₂.heap) (h0 : At 0 μ₂ s₂.heap) (P : Apart B fp μ₂ s₂.heap) (Y : Rest s s₂) {E' : Value → Shared → Prop} :
    codeAny (model prog w) A (.forLoop t (.ref I) body [] env) (fun r s' => match r with | .ok f => Post prog w B (stR B env) (wsOf env) μ s (un K) f s' | .error e => E' e s') s₂ := by
  refine codeAny_forLoop_any (Turn prog w B env μ s At fp (fun vs ρ σ => loopW r t body Sr.still vs ρ σ K) Sr.items) ?_ (Sr.items.length - 0) ⟨0, σ, μ₂, ρ, rfl, h, S, F, X, h0, P, Y⟩
  rintro k s' ⟨i, σ1, μ1, ρ1, rfl, hL, S1, F1, X1, a1, P1, Y1⟩
  cases hv : Sr.items[i]? with
  | none =>
    rw [List.drop_eq_nil_of_le (List.getElem?_eq_none_iff.mp hv)] at hL
    exact It.over hv a1 S1 P1 hL.1 hf X1 F1 hw fun s₁ S2 X2 F2 Y2 _ _ => wpAny_execs_nil ⟨(Fl.next, ρ1), σ1, μ1, hL.2, S2, X2, ⟨rfl, F2⟩, Y1.trans Y2⟩
  | some v =>
    have hd := drop_at hv
    rw [hd.2] at hL
    refine It.turn ht hv a1 S1 P1 hL.1 fun x s₁ go => go fun s₃ a3 S3 X3 P3 rv Y3 => ?_
    refine wpAny_mono (wp_then (asgW_snd G R hR hL.2 S3 (F1.other (F1.fp_ne (fun b hb hm => hw b hm hb) X3) X3.up) rv) (G := fun _ s₅ => wpAny (model prog w) A (execs body env) (Post prog w B (stR B env) (wsOf env) μ1 s₃ (un (loopK (fun ρ2 σ2 => loopW r t body Sr.still (Sr.items.drop (i + 1)) ρ2 σ2 K) K))) noE s₅)
      fun ρ2 _ σ2 μ2 s₄ hK4 S4 X4 F4 Y4 => wp_back X4 Y4 (exs_snd R hR hK4 S4 F4)) (fun _ s₄ q => wpAny_mono q (fun f s₅ q => ?_) fun _ _ e => e.elim) fun _ _ e => e.elim
    obtain ⟨⟨fl, ρ3⟩, σ3, μ3, hK5, S5, X5, ⟨hf5, F5⟩, Y5⟩ := q
    have X15 := (own_trans X1 X3 hf).trans X5
    have Y15 := (Y1.trans Y3).trans Y5
    have again : loopW r t body Sr.still (Sr.items.drop (i + 1)) ρ3 σ3 K → ∃ m, m < Sr.items.length - i ∧ Turn prog w B env μ s At fp (fun vs ρ σ => loopW r t body Sr.still vs ρ σ K) Sr.items m s₅ :=
      fun q => ⟨Sr.items.length - (i + 1), Nat.sub_lt_sub_left hd.1 (Nat.lt_succ_self i), i + 1, σ3, μ3, ρ3, rfl, q, S5, F5, X15, It.frame a3 X5.up fun b hb o e => X5.keep b o e (P3.ap b hb).1 (hw b hb), P3.ext X5 hw, Y15⟩
    cases fl with
    | next => obtain rfl : f = .next := hf5; exact again hK5
    | cont => obtain rfl : f = .cont := hf5; exact again hK5
    | brk => obtain rfl : f = .brk := hf5; exact ⟨(Fl.next, ρ3), σ3, μ3, hK5, S5, X15, ⟨rfl, F5⟩, Y15⟩
    | ret v => obtain ⟨y, rfl, ry⟩ := hf5; exact ⟨(Fl.ret v, ρ3), σ3, μ3, hK5, S5, X15, ⟨⟨y, rfl, ry⟩, F5⟩, Y15⟩

theorem for_snd (G : Gr prog w B mg mb) (R : Snd prog w B n r) (hR : Room n A) {t e : Expr} {body : List Stmt} {p : Pos} {K : KS} (h : srcW r e ρ σ fun Sr σ1 => (Sr.items.length ≤ 1000 ∧ Sr.okT t) ∧ loopW r t body Sr.still Sr.items ρ σ1 K)
    (S : St prog w B μ σ s.heap) (F : Fm B env ρ μ s.heap) : wpAny (model prog w) A (exec (.For t e body [] p) env) (Post prog w B (stR B env) (wsOf env) μ s (un K)) noE s := by
  obtain ⟨h1, h2⟩ := srcW_snd G R hR h S F
  refine wpAny_For (wpAny_mono h1 (fun x s₁ q => wpAny_mono q (fun it s₂ q => ?_) fun _ _ e => e) fun _ _ e => e) (notSet_folded h2 env)
  obtain ⟨Sr, σ1, μ1, I, fp, At, Mid, rfl, ⟨⟨_, hok⟩, hL⟩, S1, X1, It, a0, P, hf, Y⟩ := q
  refine loop_snd G R hR (It A hR.handled) hok hf (fun b hb hm => ?_) hL S1 (F.ext X1) X1.nil a0 P Y
  obtain ⟨o, e⟩ := F.live b hm
  rw [hf b hb] at e
  cases e
end
end Sw

namespace Sw
open PySem PySem.Calls PyProof.Rows

section
variable {prog : Program} {w : World} {B : Heap} {mg mb : Str → Option Value} {A : Around} {s : Shared} {μ : Mu} {σ : SH} {n : Nat} {env : Env} {ρ : Loc} {r : Rec} {T : Tab} {fp ws : List Addr} {h : Heap}

theorem swap_chain (c1 c2 c3 c4 c5 : Bool) (N : List Str) (U : Sem PUnit) {q : Option (List Str)}
    (h : (if c1 = true then some none else if c2 = true then some none else if c3 = true then some none else if c4 = true then some none else if c5 = true then none else some (some N)) = some q) :
    (if c1 = true then pure none else if c2 = true then pure none else if c3 = true then pure none else if c4 = true then pure none else if c5 = true then (U >>= fun _ => pure (some N)) else pure (some N) : Sem (Option (List Str))) = pure q := by
  cases c1
  · cases c2
    · cases c3
      · cases c4
        · cases c5
          · cases h; rfl
          · cases h
        · cases h; rfl
      · cases h; rfl
    · cases h; rfl
  · cases h; rfl

theorem swapQ_snd (F : Fm B env ρ μ h) {ts : List Expr} {value : Expr} {q : Option (List Str)} (hq : swapQ ρ.sc ts value = some q) : swappedStores ts value env = pure q := by
  have n : (some none : Option (Option (List Str))) = some q → (pure none : Sem (Option (List Str))) = pure q := fun h => congrArg pure (Option.some.inj h)
  cases ts with
  | nil => exact n hq
  | cons t r => cases r with
    | cons t2 r => cases t <;> exact n hq
    | nil => cases t with
      | List => exact no_none hq
      | Tuple ts k p => cases value with
        | Tuple vs k' p' =>
          have eb : (env.blockKind != .function) = false := by rw [F.block]; rfl
          have ek : env.kindOf = fun id => ρ.sc.names.lookup id := funext F.kindOf
          unfold swappedStores
          dsimp only
          simp only [eb, Bool.or_false, ek]
          exact swap_chain _ _ _ _ _ _ _ hq
        | _ => exact n hq
      | _ => exact n hq

theorem swapsWith_snd {t e : Expr} {line : Nat} (h : isComp e = false ∨ isAttr t = true) : swapsWithSole [t] e line env = pure false := by
  show swapsWith e (some t) line env = pure false
  rcases h with h | h
  · cases e <;> first | rfl | exact no_bool h.symm
  · exact Expr.Attribute.elim (motive_1 := fun t => swapsWith e (some t) line env = pure false) t (kd_eq h) fun _ _ _ => by cases e <;> rfl

theorem binds_snd : ∀ {names : List Str} {vs : List V} {xs : List Value} {s : Shared} {ρ ρ1 : Loc} {K : Loc → SH → Prop}, asgNames names vs ρ = some ρ1 → K ρ1 σ → St prog w B μ σ s.heap → Fm B env ρ μ s.heap → Rvs μ s.heap vs xs →
    wpAny (model prog w) A (assignInOrder (names.map fun n => bindName env n) xs) (Post prog w B (lcR B env) (wsOf env) μ s K) noE s
  | [], [], xs, s, ρ, ρ1, K, hn, h, S, F, rv => by
    cases hn
    unfold Rvs at rv
    subst rv
    exact wpAny_pure (Post.here S F h)
  | [], _ :: _, _, _, _, _, _, hn, _, _, _, _ => by cases hn
  | _ :: _, [], _, _, _, _, _, hn, _, _, _, _ => by cases hn
  | x :: names, v :: vs, xs, s, ρ, ρ1, K, hn, h, S, F, rv => by
    unfold Rvs at rv
    obtain ⟨y, ys, rfl, rv, rvs⟩ := rv
    unfold asgNames at hn
    split at hn
    · rename_i hx
      show wpAny _ _ (do holding ys (bindName env x y); assignInOrder (names.map fun n => bindName env n) ys) _ _ _
      refine wpAny_bind (wpAny_holding (wpAny_bindName (store_snd hx S F rv fun h' tk S' F' X' => ?_)))
      exact wp_back (s₁ := { s with heap := h', toks := tk }) X' ⟨rfl, rfl, rfl⟩ (binds_snd (s := { s with heap := h', toks := tk }) hn h S' F' (rvs.up X'.up))
    · cases hn

theorem lc_next {K : KS} {u : Unit} {s₁ : Shared} (P : Post prog w B (lcR B env) (wsOf env) μ s (fun ρ σ => K .next ρ σ) u s₁) : Post prog w B (stR B env) (wsOf env) μ s (un K) .next s₁ := by
  obtain ⟨ρ1, σ1, μ1, a, b, c, d, e⟩ := P
  exact ⟨(Fl.next, ρ1), σ1, μ1, a, b, c, ⟨rfl, d⟩, e⟩
theorem Post.weak {α β : Type} {R : Mu → Heap → α → β → Prop} {K : α → SH → Prop} {x : β} {s' : Shared} (P : Post prog w B R [] μ s K x s') : Post prog w B R ws μ s K x s' := by
  obtain ⟨v, σ', μ', h1, h2, h3, h4, h5⟩ := P
  exact ⟨v, σ', μ', h1, h2, h3.nil, h4, h5⟩

theorem asgNames_len : ∀ {ns : List Str} {vs : List V} {ρ ρ1 : Loc}, asgNames ns vs ρ = some ρ1 → ns.length = vs.length
  | [], [], _, _, _ => rfl
  | [], _ :: _, _, _, h => no_none h
  | _ :: _, [], _, _, h => no_none h
  | x :: ns, v :: vs, ρ, ρ1, h => by
    have h : (if isLoc ρ x then asgNames ns vs (ρ.set x v) else none) = some ρ1 := h
    cases q : isLoc ρ x with
    | true => rw [q] at h; exact congrArg Nat.succ (asgNames_len h)
    | false => rw [q] at h; exact no_none h

theorem asgTup_snd (hR : Room n A) {names : List Str} {v : V} {y : Value} {s1 : Shared} {μ1 : Mu} {σ1 : SH} {K : KS} (hK : asgTup names ρ K v σ1) (S1 : St prog w B μ1 σ1 s1.heap) (F1 : Fm B env ρ μ1 s1.heap) (r1 : Rv μ1 s1.heap v y) :
    wpAny (model prog w) A (do rule "assign.swapped-stores"; let items ← unpackItems y names.length none; assignInOrder (names.reverse.map fun n => bindName env n) items.reverse; pure Flow.next) (Post prog w B (stR B env) (wsOf env) μ1 s1 (un K)) noE s1 := by
  cases v with
  | tup vs =>
    obtain ⟨ρ1, hn, hK⟩ := oP_is hK
    unfold Rv at r1
    obtain ⟨a, m, xs, rfl, g, q⟩ := r1
    have hl : names.length = vs.length := by
      have := asgNames_len hn
      rwa [List.length_reverse, List.length_reverse] at this
    have hx : xs.size = vs.length := by rw [← q.length]; simp
    rw [hl, ← hx]
    refine wpAny_bind (wpAny_rule (wpAny_bind (wpAny_unpackItems_tuple hR.handled ⟨_, g, rfl, _, rfl⟩ fun h' he => ?_)))
    have k' := keep_of_fresh he
    have X := ext_of_keep [] μ1 k'
    refine wpAny_bind (wpAny_mono (binds_snd (s := { s1 with heap := h' }) (K := fun ρ σ => K Fl.next ρ σ) hn hK (S1.kept k') (F1.ext X) ((q.up X.up).reverse)) (fun _ s2 P => wpAny_pure ?_) fun _ _ e => e)
    exact lc_next (P.back (s := s1) (s₁ := { s1 with heap := h' }) X.nil ⟨rfl, rfl, rfl⟩)
  | _ => exact hK.elim

theorem stAs_snd (G : Gr prog w B mg mb) (R : Snd prog w B n r) (hR : Room n A) {t e : Expr} {p : Pos} {K : KS} (hc : isComp e = false ∨ isAttr t = true) (h : stAs r t e ρ σ K) (S : St prog w B μ σ s.heap) (F : Fm B env ρ μ s.heap) :
    wpAny (model prog w) A (exec (.Assign [t] e p) env) (Post prog w B (stR B env) (wsOf env) μ s (un K)) noE s := by
  obtain ⟨q, hq, h⟩ := oP_is h
  cases q with
  | some names =>
    have h : r.e e ρ σ fun v σ1 => asgTup names ρ K v σ1 := h
    rw [PyProof.Rows.exec_Assign]
    refine wpAny_bind (wpAny_standAt ?_)
    rw [swapsWith_snd hc]
    refine wpAny_bind (wpAny_pure ?_)
    rw [if_neg (by decide)]
    refine wpAny_bind (wp_then (R.e hR h S F) fun v y σ1 μ1 s1 hK S1 X1 r1 Y1 => ?_)
    rw [swapQ_snd F hq]
    refine wpAny_bind (wpAny_pure ?_)
    exact wp_back X1.nil Y1 (asgTup_snd hR hK S1 (F.ext X1) r1)
  | none =>
    have h : r.e e ρ σ fun v σ1 => asgW r t v ρ σ1 fun ρ1 σ2 => K .next ρ1 σ2 := h
    refine wpAny_Assign_stores (wp_then (R.e hR h S F) fun v y σ1 μ1 s1 hK S1 X1 r1 Y1 => ?_) (swapsWith_snd hc) (swapQ_snd F hq)
    cases q : kd t 22 with
    | true => exact Expr.Starred.elim (motive_1 := fun t => asgW r t v ρ σ1 (fun ρ1 σ2 => K .next ρ1 σ2) → _) t (kd_eq q) (fun _ _ h => h.elim) hK
    | false =>
      rw [assignEach_plain (fun a p e => by rw [e] at q; exact no_bool q.symm)]
      show wpAny _ _ (assign t env y) _ _ _
      exact wpAny_mono (asgW_snd G R hR hK S1 (F.ext X1) r1) (fun _ s2 P => lc_next (P.back X1.nil Y1)) fun _ _ e => e

theorem stAug_snd (R : Snd prog w B n r) (hR : Room n A) {x : Str} {e : Expr} {p p' : Pos} {K : KS} (h : stAug r x e ρ σ K) (S : St prog w B μ σ s.heap) (F : Fm B env ρ μ s.heap) :
    wpAny (model prog w) A (exec (.AugAssign (.Name x p) .Add e p') env) (Post prog w B (stR B env) (wsOf env) μ s (un K)) noE s := by
  obtain ⟨v, hx, h⟩ := oP_is h
  cases v with
  | int i =>
    have h : r.e e ρ σ fun v σ1 => augI ρ x i K v σ1 := h
    refine wpAny_AugAssign_Name (wp_then (load_snd (K := fun v σ' => v = .int i ∧ σ' = σ) S F hx ⟨rfl, rfl⟩) fun v y σ0 μ0 s0 hK S0 X0 r0 Y0 => ?_)
    obtain ⟨rfl, rfl⟩ := hK
    unfold Rv at r0
    obtain ⟨t, rfl⟩ := r0
    refine wp_then (R.e hR h S0 (F.ext X0)) fun v y σ1 μ1 s1 hK S1 X1 r1 Y1 => ?_
    cases v with
    | int j =>
      obtain ⟨hl, hK⟩ := ck.and hK
      unfold Rv at r1
      obtain ⟨u, rfl⟩ := r1
      refine PySem.P.iadd_int ?_
      refine store_snd (s := { s1 with toks := s1.toks + 1 }) hl S1 ((F.ext X0).ext X1) (rv_int _ _) fun h' tk S2 F2 X2 => ?_
      exact ⟨(Fl.next, ρ.set x (.int (i + j))), σ1, μ1, hK, S2, ((X0.trans X1).nil).trans X2, ⟨rfl, F2⟩, (Y0.trans Y1).trans ⟨rfl, rfl, rfl⟩⟩
    | _ => exact hK.elim
  | _ => exact h.elim

theorem stDel_snd (R : Snd prog w B n r) (hR : Room n A) {t : Expr} {p : Pos} {K : KS} (h : stDel r t ρ σ K) (S : St prog w B μ σ s.heap) (F : Fm B env ρ μ s.heap) :
    wpAny (model prog w) A (exec (.Delete [t] p) env) (Post prog w B (stR B env) (wsOf env) μ s (un K)) noE s := by
  cases t with
  | Subscript o i q =>
    have h := (ck.and h).2
    refine wpAny_Delete (wpAny_deleteEach_cons (delete_Subscript (wp_then (R.e hR h S F) fun ov ox σ1 μ1 s1 hK S1 X1 r1 Y1 => wp_then (R.e hR hK S1 (F.ext X1)) fun iv ix σ2 μ2 s2 hK2 S2 X2 r2 Y2 =>
      wp_then (delI_snd hR hK2 S2 (r1.up X2.up) r2) fun _ _ σ3 μ3 s3 hK3 S3 X3 _ Y3 => wpAny_deleteEach_nil ?_)))
    have X := (X1.trans X2).trans X3
    exact ⟨(Fl.next, ρ), σ3, μ3, hK3, S3, X.nil, ⟨rfl, F.ext X⟩, (Y1.trans Y2).trans Y3⟩
  | _ => exact h.elim

theorem stepS_snd (G : Gr prog w B mg mb) (R : Snd prog w B n r) (hR : Room n A) {x : Stmt} {K : KS} (h : stepS r x ρ σ K) (S : St prog w B μ σ s.heap) (F : Fm B env ρ μ s.heap) :
    wpAny (model prog w) A (exec x env) (Post prog w B (stR B env) (wsOf env) μ s (un K)) noE s := by
  cases x with
  | Expr e p =>
    obtain ⟨hc, h⟩ := ck.and h
    refine wpAny_Expr_any (wp_then (R.e hR h S F) fun v y σ1 μ1 s1 hK S1 X1 r1 Y1 => ?_) F.inter ?_
    · exact (Post.here (R := stR B env) (K := un K) (v := (Fl.next, ρ)) S1 ⟨rfl, F.ext X1⟩ hK).back X1.nil Y1
    · cases e <;> first | rfl | exact no_bool hc.symm
  | Return o p => cases o with
    | none => exact h.elim
    | some e =>
      refine wpAny_Return_some (wp_then (R.e hR h S F) fun v y σ1 μ1 s1 hK S1 X1 r1 Y1 => ?_)
      exact (Post.here (R := stR B env) (K := un K) (v := (Fl.ret v, ρ)) S1 ⟨⟨y, rfl, r1⟩, F.ext X1⟩ hK).back X1.nil Y1
  | Continue p =>
    rw [arm_exec_Continue]
    exact wpAny_bind (wpAny_standAt (wpAny_pure (Post.here (R := stR B env) (K := un K) (v := (Fl.cont, ρ)) S ⟨rfl, F⟩ h)))
  | Assign ts e p =>
    obtain ⟨t, rfl, h⟩ := one_prop h
    exact stAs_snd G R hR (ck.and h).1 (ck.and h).2 S F
  | AugAssign t op e p =>
    obtain ⟨x, hn, h⟩ := oP_is h
    obtain ⟨q, rfl⟩ := nmE_is hn
    obtain ⟨ho, h⟩ := ck.and h
    cases op with
    | Add => exact stAug_snd R hR h S F
    | _ => exact no_bool ho
  | If t b o p =>
    refine wpAny_If (wp_then (R.t hR h S F) fun c y σ1 μ1 s1 hK S1 X1 r1 Y1 => ?_)
    obtain rfl : c = y := r1
    cases c with
    | true => exact wp_back X1.nil Y1 (exs_snd R hR hK S1 (F.ext X1))
    | false => exact wp_back X1.nil Y1 (exs_snd R hR hK S1 (F.ext X1))
  | For t iter body els p => cases els with
    | nil => exact for_snd G R hR h S F
    | cons _ _ => exact h.elim
  | Delete ts p =>
    obtain ⟨t, rfl, h⟩ := one_prop h
    exact stDel_snd R hR h S F
  | _ => exact h.elim
end
end Sw

namespace Sw
open PySem PySem.Calls PyProof.Rows

section
variable {prog : Program} {w : World} {B : Heap} {mg mb : Str → Option Value} {A : Around} {s : Shared} {μ : Mu} {σ : SH} {n : Nat} {env : Env} {ρ : Loc} {r : Rec} {T : Tab} {fp ws : List Addr} {h : Heap}

noncomputable def Caught (ρ : Loc) (env : Env) (sc : Scope) (cl : List (Str × Addr)) (cs : List (Str × V)) : Prop :=
  (frees sc = [] ∧ cl = [] ∧ cs = []) ∨ ∃ n c v, frees sc = [(n, .free)] ∧ cl = [(n, c)] ∧ cs = [(n, v)] ∧ env.cells.lookup n = some c ∧ ρ.get n = some v ∧ ρ.sc.names.lookup n = some .cell

theorem frees_kind {sc : Scope} {y : Str × NameKind} (h : y ∈ frees sc) : y.2 = .free ∧ y ∈ sc.names := by
  obtain ⟨a, b⟩ := List.mem_filter.mp h
  exact ⟨by simpa using b, a⟩

theorem closure_go (env : Env) {f : Str × NameKind → List (Str × Addr) → Sem (ForInStep (List (Str × Addr)))} (h0 : ∀ n k acc, (k == NameKind.free) = false → f (n, k) acc = pure (.yield acc))
    (h1 : ∀ n c acc, env.cells.lookup n = some c → f (n, .free) acc = pure (.yield ((n, c) :: acc))) : ∀ (names : List (Str × NameKind)) (acc : List (Str × Addr)),
    (names.filter (fun y => y.2 == .free) = [] → forIn names acc f = pure acc) ∧
    (∀ n c, names.filter (fun y => y.2 == .free) = [(n, .free)] → env.cells.lookup n = some c → forIn names acc f = pure ((n, c) :: acc))
  | [], acc => ⟨fun _ => rfl, fun _ _ h => (nomatch h)⟩
  | (m, k) :: r, acc => by
    cases hk : (k == NameKind.free) with
    | true =>
      have e : ((m, k) :: r).filter (fun y => y.2 == NameKind.free) = (m, k) :: r.filter (fun y => y.2 == NameKind.free) := by simp [hk]
      rw [e]
      refine ⟨fun h => (nomatch h), fun n c h hc => ?_⟩
      obtain ⟨q1, q2⟩ := List.cons.inj h
      obtain ⟨rfl, rfl⟩ : m = n ∧ k = .free := by simpa using q1
      rw [List.forIn_cons, h1 m c acc hc]
      exact (closure_go env h0 h1 r ((m, c) :: acc)).1 q2
    | false =>
      have e : ((m, k) :: r).filter (fun y => y.2 == NameKind.free) = r.filter (fun y => y.2 == NameKind.free) := by simp [hk]
      rw [e, List.forIn_cons, h0 m k acc hk]
      exact closure_go env h0 h1 r acc
theorem closure_is (env : Env) (sc : Scope) : (frees sc = [] → closureFor sc env = pure []) ∧ (∀ n c, frees sc = [(n, .free)] → env.cells.lookup n = some c → closureFor sc env = pure [(n, c)]) := by
  unfold closureFor
  have q := closure_go env (f := fun (x : Str × NameKind) (cs : List (Str × Addr)) => (match x with
    | (name, kind) => if (kind == NameKind.free) = true then (do let a ← cellOf env name; let cs := (name, a) :: cs; pure PUnit.unit; pure (ForInStep.yield cs)) else (do pure PUnit.unit; pure (ForInStep.yield cs)) : Sem (ForInStep (List (Str × Addr)))))
    (fun n k acc hk => by simp only [hk]; rfl) (fun n c acc hc => by
      have e : cellOf env n = pure c := by unfold cellOf; rw [hc]
      show ((cellOf env n >>= fun a => _) : Sem (ForInStep (List (Str × Addr)))) = _
      rw [e]; rfl) sc.names []
  refine ⟨fun h => ?_, fun n c h hc => ?_⟩
  · refine Eq.trans (congrArg (fun t => t >>= fun cs => pure cs) (q.1 h)) rfl
  · refine Eq.trans (congrArg (fun t => t >>= fun cs => pure cs) (q.2 n c h hc)) rfl

theorem clo_snd (F : Fm B env ρ μ h) {sc : Scope} {cs : List (Str × V)} (hc : capture ρ (frees sc) = some cs) : ∃ cl, closureFor sc env = pure cl ∧ Caught ρ env sc cl cs := by
  unfold capture at hc
  split at hc
  · rename_i e
    cases hc
    exact ⟨[], (closure_is env sc).1 e, .inl ⟨e, rfl, rfl⟩⟩
  · rename_i n k e
    split at hc
    · rename_i v hv
      split at hc
      · rename_i hl
        cases hc
        have hl : ρ.sc.names.lookup n = some .cell := by simpa using hl
        obtain ⟨c, y, h1, _, _⟩ := F.cell n hl
        have hk : k = .free := (frees_kind (y := (n, k)) (by rw [e]; exact List.mem_cons_self)).1
        subst hk
        exact ⟨[(n, c)], (closure_is env sc).2 n c e h1, .inr ⟨n, c, v, e, rfl, rfl, h1, hv, hl⟩⟩
      · cases hc
    · cases hc
  · cases hc

theorem compOk_is {sc : Scope} {x : Str} (h : compOk sc x = true) : sc.kind = .function ∧ sc.names.lookup x = some .local ∧ ∀ y ∈ sc.names, y.2 ≠ .cell ∧ sc.names.lookup y.1 = some y.2 := by
  unfold compOk at h
  rw [Bool.and_eq_true, Bool.and_eq_true, List.all_eq_true] at h
  obtain ⟨⟨h1, h2⟩, h3⟩ := h
  refine ⟨by simpa using h1, by simpa using h2, fun y hy => ?_⟩
  have := h3 y hy
  rw [Bool.and_eq_true] at this
  exact ⟨by simpa using this.1, by simpa using this.2⟩

theorem lookup_in (y : Str) : ∀ (names : List (Str × NameKind)), (names.map fun (n, k) => if k == .free then (n, NameKind.cell) else (n, k)).lookup y = (names.lookup y).map fun k => if k == .free then NameKind.cell else k
  | [] => rfl
  | (n, k) :: r => by
    have ih := lookup_in y r
    rw [List.map_cons]
    cases hy : (y == n) with
    | true =>
      by_cases hk : (k == NameKind.free) = true
      · simp only [hk, if_true, List.lookup, hy, Option.map_some]
      · dsimp only
        rw [if_neg hk]
        simp only [List.lookup, hy, Option.map_some]
        rw [if_neg hk]
    | false =>
      by_cases hk : (k == NameKind.free) = true
      · simp only [hk, if_true, List.lookup, hy]; exact ih
      · dsimp only
        rw [if_neg hk]
        simp only [List.lookup, hy]; exact ih

theorem inComp_cell {sc : Scope} {x y : Str} (hs : compOk sc x = true) (h : (inComp sc).names.lookup y = some .cell) : (y, NameKind.free) ∈ frees sc := by
  have h : (sc.names.map fun (n, k) => if k == .free then (n, NameKind.cell) else (n, k)).lookup y = some .cell := h
  rw [lookup_in] at h
  obtain ⟨k, hk, e⟩ := Option.map_eq_some_iff.mp h
  have hm := mem_lookup hk
  have hn := ((compOk_is hs).2.2 _ hm).1
  split at e
  · rename_i q
    have : k = .free := by simpa using q
    subst this
    exact List.mem_filter.mpr ⟨hm, rfl⟩
  · exact absurd e hn
theorem inComp_free {sc : Scope} {x y : Str} (hs : compOk sc x = true) (h : (y, NameKind.free) ∈ frees sc) : (inComp sc).names.lookup y = some .cell := by
  have h1 := ((compOk_is hs).2.2 _ (frees_kind h).2).2
  show (sc.names.map fun (n, k) => if k == .free then (n, NameKind.cell) else (n, k)).lookup y = some .cell
  rw [lookup_in, h1]
  rfl
theorem inComp_local {sc : Scope} {x : Str} (hs : compOk sc x = true) : (inComp sc).names.lookup x = some .local := by
  have h1 := (compOk_is hs).2.1
  show (sc.names.map fun (n, k) => if k == .free then (n, NameKind.cell) else (n, k)).lookup x = some .local
  rw [lookup_in, h1]
  rfl

theorem relabel_in (F : Fm B env ρ μ h) {sc : Scope} {cl : List (Str × Addr)} {cs : List (Str × V)} (hc : Caught ρ env sc cl cs) : (relabel sc env).names = (inComp sc).names := by
  show sc.names.map _ = sc.names.map _
  refine List.map_congr_left fun y hy => ?_
  obtain ⟨n, k⟩ := y
  dsimp only
  by_cases hk : (k == NameKind.free) = true
  · have hm : (n, k) ∈ frees sc := List.mem_filter.mpr ⟨hy, hk⟩
    rcases hc with ⟨e, _⟩ | ⟨n', c, v, e, _, _, h1, h2, h3⟩
    · rw [e] at hm; cases hm
    · rw [e] at hm
      obtain ⟨rfl, rfl⟩ : n = n' ∧ k = .free := by simpa using hm
      rw [F.kindOf, h3, F.kind]
      rfl
  · simp [hk]

theorem caught_v {sc : Scope} {x : Str} {cl : List (Str × Addr)} {cs : List (Str × V)} (hs : compOk sc x = true) (hc : Caught ρ env sc cl cs) {y : Str} {v : V} (hy : cs.lookup y = some v) : (inComp sc).names.lookup y = some .cell := by
  rcases hc with ⟨e, _, rfl⟩ | ⟨n', c, u, e, _, rfl, h1, h2, h3⟩
  · exact no_none hy
  · obtain e2 : (y, v) = (n', u) := List.mem_singleton.mp (mem_lookup hy)
    cases e2
    exact inComp_free hs (by rw [e]; exact List.mem_cons_self)
theorem caught_c {sc : Scope} {x : Str} {cl : List (Str × Addr)} {cs : List (Str × V)} (hs : compOk sc x = true) (hc : Caught ρ env sc cl cs) {y : Str} {c' : Addr} (hy : cl.lookup y = some c') : (inComp sc).names.lookup y = some .cell ∧ env.cells.lookup y = some c' := by
  rcases hc with ⟨e, rfl, _⟩ | ⟨n', c, u, e, rfl, _, h1, h2, h3⟩
  · exact no_none hy
  · obtain e2 : (y, c') = (n', c) := List.mem_singleton.mp (mem_lookup hy)
    cases e2
    exact ⟨inComp_free hs (by rw [e]; exact List.mem_cons_self), h1⟩
theorem comp_fm (F : Fm B env ρ μ h) {sc : Scope} {x : Str} {cl : List (Str × Addr)} {cs : List (Str × V)} (hs : compOk sc x = true) (hc : Caught ρ env sc cl cs) {C : Addr} {h' : Heap} (hn : h'.Ns C fun _ => none) (X : Ext [] μ h μ h')
    (hC : C ∉ fpOf μ) (hB : B.get? C = none) (hl : h.get? C = none) : Fm B (compEnvC sc cl C env) ⟨inComp sc, cs⟩ μ h' where
  kind := (compOk_is hs).1
  names := relabel_in F hc
  glo := F.glo
  blt := F.blt
  ns := ⟨_, hn, fun y v hy hly => nomatch (caught_v hs hc hy).symm.trans hly⟩
  cell := fun y hy => by
    have hm := inComp_cell hs hy
    rcases hc with ⟨e, _, rfl⟩ | ⟨n', c, u, e, rfl, rfl, h1, h2, h3⟩
    · rw [e] at hm; cases hm
    · rw [e] at hm
      obtain rfl : y = n' := by simpa using hm
      obtain ⟨c', z, q1, ⟨o, q2, q3⟩, q4⟩ := F.cell y h3
      obtain rfl := Option.some.inj (h1.symm.trans q1)
      refine ⟨c, z, by simp [compEnvC, List.lookup], ⟨o, X.keep _ _ q2 (F.apC y c h1).1 (by simp), q3⟩, fun v hv => ?_⟩
      have hv : [(y, u)].lookup y = some v := hv
      obtain rfl : u = v := by simpa [List.lookup] using hv
      obtain ⟨z', e1, e2⟩ := q4 u h2
      exact ⟨z', e1, e2.up X.up⟩
  celln := fun y c' hy => (caught_c hs hc hy).1
  kinds := fun y v hy => by
    unfold isLoc
    rw [show (⟨inComp sc, cs⟩ : Loc).sc.names.lookup y = some .cell from caught_v hs hc hy]
    rfl
  apL := hC
  apC := fun y c' hy => ⟨(F.apC y c' (caught_c hs hc hy).2).1, fun e => by
    obtain ⟨o, q⟩ := F.liveC (caught_c hs hc hy).2
    exact no_none (hl.symm.trans (e ▸ q))⟩
  inj := fun y z c' hy hz => F.inj y z c' (caught_c hs hc hy).2 (caught_c hs hc hz).2
  newL := hB
  newC := fun y c' hy => F.newC y c' (caught_c hs hc hy).2
  cl := fun p hp => by
    have hp : p ∈ cl := hp
    show cl.lookup p.1 = some p.2
    rcases hc with ⟨e, rfl, rfl⟩ | ⟨n', c, u, e, rfl, rfl, h1, h2, h3⟩
    · cases hp
    · obtain rfl := List.mem_singleton.mp hp
      simp [List.lookup]
end
end Sw

namespace Sw
open PySem PySem.Calls PyProof.Rows

section
variable {prog : Program} {w : World} {B : Heap} {mg mb : Str → Option Value} {A : Around} {s : Shared} {μ : Mu} {σ : SH} {n : Nat} {env : Env} {ρ : Loc} {r : Rec} {T : Tab} {fp ws : List Addr} {h : Heap}

/-- a list outside the shadow joins it -/
theorem join_list {h0 : Heap} {d : Addr} {vs : List V} {xs : Array Value} {m : Nat} {h : Heap} (hd : d ∉ fpOf μ) (hB : B.get? d = none) (g : h.get? d = some { cls := .type "list", data := .seq xs m }) (q : Rvs μ h vs xs.toList) (S : St prog w B μ σ h) (hn : h0.get? d = none)
    {μ0 : Mu} (X : Ext ws μ0 h0 μ h) : St prog w B (μ ++ [(d, none)]) (σ ++ [.list vs]) h ∧ Ext ws μ0 h0 (μ ++ [(d, none)]) h := by
  refine ⟨S.grow (fun b hb => ?_) (by simp [ow]) ⟨rfl, m, xs, g, q⟩, ⟨?_, X.keep, X.tup, fun b hb => ?_, X.live⟩⟩
  · obtain rfl : b = d := by simpa [ow] using hb
    exact ⟨hd, hB, _, g⟩
  · obtain ⟨ν, rfl⟩ := X.pre
    exact ⟨ν ++ [(d, none)], by simp⟩
  · rw [fpOf_append] at hb
    rcases List.mem_append.mp hb with q | q
    · exact X.new b q
    · obtain rfl : b = d := by simpa [fpOf, ow] using q
      exact .inr hn

/-- what holds of the heap between two turns of a comprehension -/
structure CSt (prog : Program) (w : World) (B : Heap) (cenv : Env) (D : Addr) (sc : Scope) (μ : Mu) (h0 : Heap) (At : Nat → Mu → Heap → Prop) (fp : List Addr) (i : Nat) (σ' : SH) (μ' : Mu) (ρ' : Loc) (done : List V) (m : Nat) (xs : Array Value) (h' : Heap) : Prop where
  sc : ρ'.sc = sc
  S : St prog w B μ' σ' h'
  F : Fm B cenv ρ' μ' h'
  X : Ext [] μ h0 μ' h'
  at_ : At i μ' h'
  P : Apart B fp μ' h'
  PD : Apart B [D] μ' h'
  g : h'.get? D = some { cls := .type "list", data := .seq xs m }
  r : Rvs μ' h' done xs.toList
  len : done.length ≤ i
inductive CTurn (prog : Program) (w : World) (B : Heap) (cenv : Env) (D : Addr) (sc : Scope) (μ : Mu) (s : Shared) (At : Nat → Mu → Heap → Prop) (fp : List Addr) (L : List V → List V → Loc → SH → Prop) (items : List V) (k : Nat) (s' : Shared) : Prop
  | mk (i : Nat) (σ' : SH) (μ' : Mu) (ρ' : Loc) (done : List V) (m : Nat) (xs : Array Value) (e : k = items.length - i) (l : L done (items.drop i) ρ' σ') (c : CSt prog w B cenv D sc μ s.heap At fp i σ' μ' ρ' done m xs s'.heap) (y : Rest s s')
theorem CSt.go {cenv : Env} {D : Addr} {sc : Scope} {h0 h' : Heap} {At : Nat → Mu → Heap → Prop} {i i' : Nat} {σ' : SH} {μ0 μ' : Mu} {ρ' : Loc} {done : List V} {m : Nat} {xs : Array Value} (c : CSt prog w B cenv D sc μ0 h0 At fp i σ μ ρ done m xs h) (S' : St prog w B μ' σ' h') (F' : Fm B cenv ρ' μ' h')
    (X : Ext ws μ h μ' h') (hx : ∀ b ∈ ws, h0.get? b = none) (a : At i' μ' h') (P : Apart B fp μ' h') (hD : D ∉ ws) (hs : ρ'.sc = sc) (hi : i ≤ i') : CSt prog w B cenv D sc μ0 h0 At fp i' σ' μ' ρ' done m xs h' where
  sc := hs
  S := S'
  F := F'
  X := own_trans c.X X hx
  at_ := a
  P := P
  PD := c.PD.ext X fun b hb hm => by obtain rfl := List.mem_singleton.mp hb; exact hD hm
  g := X.keep D _ c.g (c.PD.ap D List.mem_cons_self).1 hD
  r := c.r.up X.up
  len := Nat.le_trans c.len hi
theorem CSt.on {cenv : Env} {D : Addr} {sc : Scope} {h0 h' : Heap} {I : Addr} {Sr : Src} {At : Nat → Mu → Heap → Prop} {Mid : Nat → Value → Mu → Heap → Prop} (It : IterOk prog w B A Sr I fp At Mid) {i : Nat} {σ' : SH} {μ0 μ' : Mu} {ρ' : Loc} {done : List V} {m : Nat} {xs : Array Value} (c : CSt prog w B cenv D sc μ0 h0 At fp i σ μ ρ done m xs h)
    (S' : St prog w B μ' σ' h') (F' : Fm B cenv ρ' μ' h') (X : Ext ws μ h μ' h') (hx : ∀ b ∈ ws, h0.get? b = none) (hw : ∀ b ∈ fp, b ∉ ws) (hD : D ∉ ws) (hs : ρ'.sc = sc) : CSt prog w B cenv D sc μ0 h0 At fp i σ' μ' ρ' done m xs h' :=
  c.go S' F' X hx (It.frame c.at_ X.up fun b hb o e => X.keep b o e (c.P.ap b hb).1 (hw b hb)) (c.P.ext X hw) hD hs (Nat.le_refl _)
theorem no_mem0 {b : Addr} : b ∉ ([] : List Addr) := fun h => nomatch h

theorem store_local {x : Str} {v : V} {y : Value} (hl : ρ.sc.names.lookup x = some .local) (S : St prog w B μ σ s.heap) (F : Fm B env ρ μ s.heap) (rv : Rv μ s.heap v y) {Q : Unit → Shared → Prop}
    (hq : ∀ h' tk, St prog w B μ σ h' → Fm B env (ρ.set x v) μ h' → Ext [env.locals] μ s.heap μ h' → Q () { s with heap := h', toks := tk }) :
    wpAny (model prog w) A (storeName env x y) Q noE s := by
  have hx : isLoc ρ x = true := by unfold isLoc; rw [hl]; rfl
  obtain ⟨m, hn, hm⟩ := F.ns
  refine wpAny_storeName_local (by rw [F.kindOf]; exact hl) hn (fun h' hn' hs => ?_) F.notClass
  obtain ⟨o, es, ep, ho, hd, _⟩ := id hn
  have u : Up μ s.heap μ h' := up_other ho (fun xs k e => by rw [hd] at e; cases e) hs
  obtain ⟨o', _, _, ho', _⟩ := id hn'
  refine hq h' _ (S.beside F.apL F.newL hs u) ?_ (ext_beside List.mem_cons_self ho' hs u)
  refine ⟨F.kind, F.names, F.glo, F.blt, ⟨_, hn', fun z u' hz hlz => ?_⟩, fun z hz => ?_, F.celln, fun z u' hz => ?_, F.apL, F.apC, F.inj, F.newL, F.newC, F.cl⟩
  · rw [get_set] at hz
    by_cases hzx : z = x
    · rw [if_pos hzx] at hz; cases hz; exact ⟨y, if_pos hzx, rv.up u⟩
    · rw [if_neg hzx] at hz
      obtain ⟨y', q1, q2⟩ := hm z u' hz hlz
      exact ⟨y', by rw [if_neg hzx]; exact q1, q2.up u⟩
  · obtain ⟨c, y', h1, ⟨oc, h2, h3⟩, h4⟩ := F.cell z hz
    refine ⟨c, y', h1, ⟨oc, (hs.2 c (F.apC z c h1).2).trans h2, h3⟩, fun u' hu' => ?_⟩
    rw [get_set] at hu'
    have hzx : z ≠ x := by rintro rfl; have hz' : ρ.sc.names.lookup z = some .cell := hz; rw [hl] at hz'; cases hz'
    rw [if_neg hzx] at hu'
    obtain ⟨z', q1, q2⟩ := h4 u' hu'
    exact ⟨z', q1, q2.up u⟩
  · rw [get_set] at hz
    by_cases hzx : z = x
    · subst hzx; exact hx
    · rw [if_neg hzx] at hz; exact F.kinds z u' hz

theorem okT_name {Sr : Src} {x : Str} {p q : Pos} (h : Sr.okT (.Name x p)) : Sr.okT (.Name x q) := by
  cases Sr <;> first | trivial | exact h

theorem tests_snd (R : Snd prog w B n r) (hR : Room n A) {ifs : List Expr} {K : Bool → SH → Prop} (h : testsW r ifs ρ σ K) (S : St prog w B μ σ s.heap) (F : Fm B env ρ μ s.heap) :
    wpAny (model prog w) A (forIn ifs true fun c r => if r = true then do let ok ← isTrue c env (eval c env); pure (ForInStep.yield ok) else pure (ForInStep.yield r)) (Post prog w B eqR [] μ s K) noE s := by
  unfold testsW at h
  split at h
  · exact wpAny_tests_nil (Post.here S rfl h)
  · exact wpAny_tests_one (R.t hR h S F)
  · exact h.elim

/-- a comprehension's list, filled, joins the shadow -/
theorem comp_over {I D : Addr} {sc : Scope} {Sr : Src} {K : KE} {At : Nat → Mu → Heap → Prop} {Mid : Nat → Value → Mu → Heap → Prop} (It : IterOk prog w B A Sr I fp At Mid) {i : Nat} {σ1 : SH} {μ1 : Mu} {ρ1 : Loc} {dn : List V} {m : Nat} {xs : Array Value} {s' : Shared}
    (hf : ∀ b ∈ fp, s.heap.get? b = none) (hfD : s.heap.get? D = none) (hfC : s.heap.get? env.locals = none) (hw : ∀ b ∈ fp, b ∉ wsOf env) (hwD : D ∉ wsOf env) (hDf : D ∉ fp) (hv : Sr.items[i]? = none) (c : CSt prog w B env D sc μ s.heap At fp i σ1 μ1 ρ1 dn m xs s'.heap) (Y : Rest s s')
    (st : Sr.still σ1) (hK : K (.ref σ1.length) (σ1 ++ [.list dn])) {Q : Option Value → Shared → Prop} {E : Value → Shared → Prop} (hQ : ∀ s₁, compPost (model prog w) A noE none (Post prog w B Rv [] μ s K) (.ref D) env.locals (.ok .next) s₁ → Q none s₁) :
    wpAny (model prog w) A (pyNext (.ref I)) Q E s' :=
  It.over hv c.at_ c.S c.P st hf c.X c.F hw fun s₁ S2 X2 F2 Y2 k' u => hQ s₁ (by
    have g2 := k' D _ hDf c.g
    obtain ⟨mm, hn, _⟩ := F2.ns
    refine ⟨mm, hn, fun h'' hs => ?_⟩
    obtain ⟨o, es, ep, ho, hd', _⟩ := id hn
    have u3 : Up μ1 s₁.heap μ1 h'' := up_other ho (fun xs k e => by rw [hd'] at e; cases e) hs
    have S3 := S2.beside F2.apL F2.newL hs u3
    have hDL : D ≠ env.locals := fun e => hwD (by rw [e]; exact List.mem_cons_self)
    have ne : ∀ {b o}, s.heap.get? b = some o → b ≠ env.locals := fun e q => by rw [q, hfC] at e; cases e
    obtain ⟨a2, b2, _⟩ := c.PD.ap D List.mem_cons_self
    obtain ⟨S4, X4⟩ := join_list (μ0 := μ) (ws := []) a2 b2 ((hs.2 D hDL).trans g2) ((c.r.up u).up u3) S3 hfD
      ⟨X2.pre, fun b o e h1 h2 => (hs.2 b (ne e)).trans (X2.keep b o e h1 h2), fun a xs n e => u3.tup a xs n (X2.tup a xs n e), X2.new, fun b o e => (X2.live b o e).imp fun o' e' => (hs.2 b (ne e)).trans e'⟩
    refine ⟨.ref σ1.length, _, _, hK, S4, X4, ?_, (Y.trans Y2).trans ⟨rfl, rfl, rfl⟩⟩
    unfold Rv
    exact ⟨(D, none), by rw [← S3.len, List.getElem?_append_right (Nat.le_refl _), Nat.sub_self]; rfl, rfl⟩)

/-- an item's value, put behind what was made -/
theorem comp_push {I D : Addr} {sc : Scope} {Sr : Src} {At : Nat → Mu → Heap → Prop} {Mid : Nat → Value → Mu → Heap → Prop} (It : IterOk prog w B A Sr I fp At Mid) {i : Nat} {σ1 : SH} {μ1 : Mu} {ρ1 : Loc} {dn : List V} {m : Nat} {xs : Array Value} {s' : Shared} {y : V} {yv : Value}
    (hfD : s.heap.get? D = none) (hwD : D ∉ wsOf env) (hDf : D ∉ fp) (hl : dn.length ≤ 1000) (c : CSt prog w B env D sc μ s.heap At fp i σ1 μ1 ρ1 dn m xs s'.heap) (ry : Rv μ1 s'.heap y yv) (hi : dn.length < i)
    {Q : Value → Shared → Prop} {E : Value → Shared → Prop} (hQ : ∀ s₁ m', CSt prog w B env D sc μ s.heap At fp i σ1 μ1 ρ1 (dn ++ [y]) m' (xs.push yv) s₁.heap → Rest s' s₁ → Q .none s₁) :
    wpAny (model prog w) A (call (.builtin "list.append") [.ref D, yv]) Q E s' := by
  have hl' : xs.size = dn.length := by rw [← c.r.length]; simp
  refine call_meets PySem.F.slot_list_append ⟨_, c.g, rfl⟩ PySem.F.entry_list_append (PySem.F.args_list_append_2 _ _) (list_append D xs m yv (by rw [hl', sizeLine_eq]; omega)) ⟨c.g, ?_⟩
  have hs : Heap.SameBut D s'.heap (s'.heap.update D (Obj.mapSeq fun x => x.push yv)) := Heap.SameBut.update ..
  have g' := Heap.get?_update_self (Obj.mapSeq fun x : Array Value => x.push yv) c.g rfl
  obtain ⟨S7, X7, PD7⟩ := own_step c.PD (one_own g' (ne_name (by decide))) (but_one hs.extBut) c.S
  have hfpD : ∀ b ∈ fp, b ∉ [D] := fun b hb hm => hDf (by obtain rfl := List.mem_singleton.mp hm; exact hb)
  refine hQ { s' with heap := s'.heap.update D (Obj.mapSeq fun x => x.push yv) } _ ⟨c.sc, S7, c.F.other (c.F.fp_ne (fun b hb hm => hwD (by obtain rfl := List.mem_singleton.mp hm; exact hb)) X7) X7.up, own_trans c.X X7 (fun b hb => by obtain rfl := List.mem_singleton.mp hb; exact hfD),
    It.frame c.at_ X7.up fun b hb o e => X7.keep b o e (c.P.ap b hb).1 (hfpD b hb), c.P.ext X7 hfpD, PD7, g', ?_, by rw [List.length_append, List.length_singleton]; exact hi⟩ ⟨rfl, rfl, rfl⟩
  rw [Array.toList_push]
  exact (c.r.append (Rvs.cons ry Rvs.nil)).up X7.up

theorem compLoop_snd (R : Snd prog w B n r) (hR : Room n A) {elt iter : Expr} {ifs : List Expr} {x : Str} {px pos : Pos} {scope sc : Scope} {Sr : Src} {K : KE} {I D C : Addr} {At : Nat → Mu → Heap → Prop} {Mid : Nat → Value → Mu → Heap → Prop}
    (It : IterOk prog w B A Sr I fp At Mid) (ht : Sr.okT (.Name x default)) (hsc : sc.names.lookup x = some .local) {s₂ : Shared} {μ₂ : Mu} (hf : ∀ b ∈ fp, s.heap.get? b = none) (hfD : s.heap.get? D = none) (hfC : s.heap.get? C = none)
    (hw : ∀ b ∈ fp, b ∉ wsOf env) (hwD : D ∉ wsOf env) (hC : env.locals = C) (hDf : D ∉ fp) (hlen : Sr.items.length ≤ 1000) (hρ : ρ.sc = sc)
    (h : compW r elt x ifs Sr.still Sr.items ρ σ fun vs σ2 => K (.ref σ2.length) (σ2 ++ [.list vs])) (S : St prog w B μ₂ σ s₂.heap) (F : Fm B env ρ μ₂ s₂.heap) (X : Ext [] μ s.heap μ₂ s₂.heap) (h0 : At 0 μ₂ s₂.heap) (P : Apart B fp μ₂ s₂.heap)
    (PD : Apart B [D] μ₂ s₂.heap) (gD : s₂.heap.get? D = some { cls := .type "list", data := .seq #[] }) (Y : Rest s s₂) :
    codeAny (model prog w) A (.compLoop (.ListComp elt [⟨.Name x px, iter, ifs, 0⟩] scope pos) 0 (.ref I) (.ref D) env) (compPost (model prog w) A noE none (Post prog w B Rv [] μ s K) (.ref D) C) s₂ := by
  subst hC
  refine codeAny_compLoop_tests (CTurn prog w B env D sc μ s At fp (fun (dn vs : List V) (ρ : Loc) (σ : SH) => compW r elt x ifs Sr.still vs ρ σ fun (us : List V) (σ2 : SH) => K (.ref σ2.length) (σ2 ++ [SO.list (dn ++ us)])) Sr.items) ?_ (Sr.items.length - 0)
    ⟨0, σ, μ₂, ρ, [], 0, #[], rfl, h, ⟨hρ, S, F, X, h0, P, PD, gD, Rvs.nil, Nat.le_refl _⟩, Y⟩
  rintro k s' ⟨i, σ1, μ1, ρ1, dn, m, xs, rfl, hL, c1, Y1⟩
  cases hv : Sr.items[i]? with
  | none =>
    rw [List.drop_eq_nil_of_le (List.getElem?_eq_none_iff.mp hv)] at hL
    have hK : K (.ref σ1.length) (σ1 ++ [.list (dn ++ [])]) := hL.2
    rw [List.append_nil] at hK
    exact comp_over It hf hfD hfC hw hwD hDf hv c1 Y1 hL.1 hK fun _ q => q
  | some v =>
    have hd := drop_at hv
    rw [hd.2] at hL
    have hwL : ∀ b ∈ fp, b ∉ [env.locals] := fun b hb hm => hw b hb (by obtain rfl := List.mem_singleton.mp hm; exact List.mem_cons_self)
    have hDL : D ∉ [env.locals] := fun hm => hwD (by obtain rfl := List.mem_singleton.mp hm; exact List.mem_cons_self)
    have hi : i + 1 ≤ 1000 := Nat.le_trans hd.1 hlen
    have less : Sr.items.length - (i + 1) < Sr.items.length - i := Nat.sub_lt_sub_left hd.1 (Nat.lt_succ_self i)
    refine It.turn (t := .Name x px) (okT_name ht) hv c1.at_ c1.S c1.P hL.1 fun y s₁ go => ?_
    show wpAny _ _ (letOwnedTupleGo (.Name x px) (.ref I) y >>= fun _ => assign (.Name x px) env y) _ _ _
    refine wpAny_bind (go fun s₃ a3 S3 X3 P3 rv Y3 => ?_)
    have c3 := c1.go S3 (c1.F.other (c1.F.fp_ne (fun b hb hm => hw b hm hb) X3) X3.up) X3 hf a3 P3 hDf c1.sc (Nat.le_succ i)
    refine wpAny_assign_Name (wpAny_mono (store_local (σ := σ1) (by rw [c1.sc]; exact hsc) c3.S c3.F rv (Q := fun _ s₄ => CSt prog w B env D sc μ s.heap At fp (i + 1) σ1 μ1 (ρ1.set x v) dn m xs s₄.heap ∧ Rest s₃ s₄)
      fun h' tk S' F' X' => ⟨c3.on It S' F' X' (fun b hb => by obtain rfl := List.mem_singleton.mp hb; exact hfC) hwL hDL c1.sc, ⟨rfl, rfl, rfl⟩⟩) (fun _ s₄ q => ?_) fun _ _ e => e.elim)
    have c4 := q.1
    refine wpAny_mono (wp_then (tests_snd R hR hL.2 c4.S c4.F) (G := fun ok s₅ => ∃ σ5 μ5, ifB ok
      (r.e elt (ρ1.set x v) σ5 fun y σ3 => compW r elt x ifs Sr.still (Sr.items.drop (i + 1)) (ρ1.set x v) σ3 fun ys σ4 => K (.ref σ4.length) (σ4 ++ [.list (dn ++ (y :: ys))]))
      (compW r elt x ifs Sr.still (Sr.items.drop (i + 1)) (ρ1.set x v) σ5 fun ys σ4 => K (.ref σ4.length) (σ4 ++ [.list (dn ++ ys)])) ∧ CSt prog w B env D sc μ s.heap At fp (i + 1) σ5 μ5 (ρ1.set x v) dn m xs s₅.heap ∧ Rest s s₅)
      fun b c σ5 μ5 s₅ hK S5 X5 e Y5 => ⟨σ5, μ5, by obtain rfl : b = c := e; exact hK, c4.on It S5 (c4.F.ext X5) X5 (fun _ h => absurd h no_mem0) (fun _ _ => no_mem0) no_mem0 c1.sc, ((Y1.trans Y3).trans q.2).trans Y5⟩) (fun ok s₅ q => ?_) fun _ _ e => e.elim
    obtain ⟨σ5, μ5, hK5, c5, Y5⟩ := q
    cases ok with
    | false =>
      rw [if_neg (by decide)]
      exact ⟨_, less, i + 1, σ5, μ5, ρ1.set x v, dn, m, xs, rfl, hK5, c5, Y5⟩
    | true =>
      rw [if_pos rfl]
      refine wpAny_mono (wp_then (R.e hR hK5 c5.S c5.F) (G := fun yv s₆ => ∃ y σ6 μ6, compW r elt x ifs Sr.still (Sr.items.drop (i + 1)) (ρ1.set x v) σ6 (fun ys σ4 => K (.ref σ4.length) (σ4 ++ [.list (dn ++ (y :: ys))])) ∧
        CSt prog w B env D sc μ s.heap At fp (i + 1) σ6 μ6 (ρ1.set x v) dn m xs s₆.heap ∧ Rv μ6 s₆.heap y yv ∧ Rest s s₆) fun y yv σ6 μ6 s₆ hK S6 X6 r6 Y6 => ⟨y, σ6, μ6, hK, c5.on It S6 (c5.F.ext X6) X6 (fun _ h => absurd h no_mem0) (fun _ _ => no_mem0) no_mem0 c1.sc, r6, Y5.trans Y6⟩) (fun yv s₆ q => ?_) fun _ _ e => e.elim
      obtain ⟨yy, σ6, μ6, hK6, c6, r6, Y6⟩ := q
      refine comp_push It hfD hwD hDf (Nat.le_trans c1.len (Nat.le_of_succ_le hi)) c6 r6 (Nat.lt_succ_of_le c1.len) fun s₇ m' c7 Y7 => ?_
      have e : (fun (ys : List V) (σ4 : SH) => K (.ref σ4.length) (σ4 ++ [.list (dn ++ (yy :: ys))])) = fun ys σ4 => K (.ref σ4.length) (σ4 ++ [.list ((dn ++ [yy]) ++ ys)]) := by
        funext ys σ4
        rw [List.append_assoc]; rfl
      rw [e] at hK6
      exact ⟨_, less, i + 1, σ6, μ6, ρ1.set x v, dn ++ [yy], m', xs.push yv, rfl, hK6, c7, Y6.trans Y7⟩
end
end Sw

namespace Sw
open PySem PySem.Calls PyProof.Rows

abbrev RawDict (h : Heap) (d : Addr) (es : Array DictEntry) (ep : Nat) : Prop := h.get? d = some { cls := .type "dict", data := .dict es ep }

section
variable {prog : Program} {w : World} {B : Heap} {mg mb : Str → Option Value} {A : Around} {E : Value → Shared → Prop} {s : Shared} {μ : Mu} {σ : SH} {n : Nat} {env : Env} {ρ : Loc} {r : Rec} {T : Tab} {fp ws : List Addr} {h : Heap}

theorem vals_meets (d : Addr) (hd : (d == sysModules) = false) (es : Array DictEntry) (ep : Nat) :
    MeetsIn prog w (Builtin.«dict.values» ⟨[.ref d], []⟩) (fun _ R s => RawDict s.heap d es ep ∧
      R (.ok (.ret (.ref s.heap.objs.size))) { s with heap := s.heap.push { cls := .type "dict_values", data := .fields #[.ref d] } }) :=
  .of_wp fun A R s ⟨hm, h⟩ => by
    have hT : s.TypeIs (.ref d) "dict" := ⟨_, hm, rfl⟩
    refine wpAny_bind ?_
    unfold Builtin.Dict.noArgs
    refine wpAny_bind (wpAny_notOrdered_dict hT ?_)
    show wpAny _ _ (pure d) _ _ s
    refine wpAny_pure ?_
    show wpAny _ _ (Builtin.Dict.showsAll d >>= _) _ _ s
    unfold Builtin.Dict.showsAll
    rw [if_neg (by rw [hd]; exact Bool.false_ne_true)]
    refine wpAny_bind (wpAny_pure ?_)
    exact wpAny_bind (wpAny_newObj_type (wpAny_pure ⟨_, rfl, h⟩))

theorem vals_iter {v d : Addr} {es : Array DictEntry} {ep : Nat} {Q : Value → Shared → Prop} (hv : s.heap.IsValuesView v d) (hm : RawDict s.heap d es ep)
    (hQ : Q (.ref s.heap.objs.size) { s with heap := s.heap.push { cls := .type "dict_valueiterator", data := .fields #[.ref d, .int 0 0, .int es.size 0, .int ep 0] } }) :
    wpAny (model prog w) A (pyIter (.ref v)) Q E s := by
  obtain ⟨ov, hov, hcv, hdv⟩ := id hv
  refine wpAny_pyIter_slot hv.typeIs PySem.F.slot_dict_values_iter (wpAny_call_entry PySem.F.slot_dict_values_iter hv.typeIs PySem.F.entry_dict_values_iter ?_ (PySem.F.args_dict_values_iter_1 _))
  unfold Builtin.«dict_values.__iter__»
  refine wpAny_bind (wpAny_pure ?_)
  refine wpAny_bind ?_
  unfold Builtin.Dict_items.dictOf
  refine wpAny_bind (wpAny_field hov hdv (x := .ref d) rfl (wpAny_pure ?_))
  refine wpAny_bind ?_
  unfold Builtin.Dict_items.newIterator
  refine wpAny_bind (wpAny_dictEntries hm rfl ?_)
  refine wpAny_bind (wpAny_dictEpoch hm rfl ?_)
  have hown : Builtin.Dict_items.ownsTuple "dict_valueiterator" = false := by decide
  simp only [hown, Bool.false_eq_true, if_false]
  refine wpAny_newObj_type (wpAny_pure ⟨_, rfl, "dict_valueiterator", _, ⟨_, Heap.get?_push_size _ rfl, rfl⟩, PySem.F.slot_dict_valueiterator_next.lookup, ?_⟩)
  simpa [rawInt] using hQ

theorem vals_item {it d : Addr} {i ep : Nat} {es : Array DictEntry} {e : DictEntry} {Q : Option Value → Shared → Prop} (hit : s.heap.IsValIter it d i es.size ep)
    (hm : RawDict s.heap d es ep) (hx : es[i]? = some e)
    (hQ : ∀ h', h'.IsValIter it d (i + 1) es.size ep → Heap.SameBut it s.heap h' → Q (some e.val) { s with heap := h' }) :
    wpAny (model prog w) A (pyNext (.ref it)) Q E s := by
  obtain ⟨o, ho, hc, hd⟩ := id hit
  unfold pyNext
  refine wpAny_bind (wpAny_attempt (wpAny_callSpecial?_slot (name := Str.ofString "__next__") hit.typeIs PySem.F.slot_dict_valueiterator_next
    (wpAny_call_entry PySem.F.slot_dict_valueiterator_next hit.typeIs PySem.F.entry_dict_valueiterator_next ?_ (PySem.F.args_dict_valueiterator_next_1 _))))
  refine wpAny_bind (wpAny_pure ?_)
  refine wpAny_bind ?_
  refine wpAny_bind ?_
  first | refine wpAny_bind (wpAny_typeNameOfWhole_valiter hit.typeIs (wpAny_pure ?_)) | refine wpAny_bind (wpAny_typeNameOf_valiter hit.typeIs (wpAny_pure ?_))
  refine wpAny_bind (wpAny_fieldsOf ho hd ?_)
  have hown : Builtin.Dict_items.ownsTuple "dict_valueiterator" = false := by decide
  simp only [hown, Bool.false_eq_true, if_false]
  show wpAny _ _ (if (Value.ref d == Value.none) = true then _ else _) _ _ s
  rw [if_neg (show ¬ ((Value.ref d == Value.none) = true) from Bool.false_ne_true)]
  refine wpAny_bind (wpAny_pure ?_)
  refine wpAny_bind (wpAny_dictEntries hm rfl ?_)
  rw [if_neg (by simp)]
  refine wpAny_bind (wpAny_pure ?_)
  refine wpAny_bind (wpAny_dictEpoch hm rfl ?_)
  rw [if_neg (by simp)]
  refine wpAny_pure ?_
  have hlt' : i < es.size := (Array.getElem?_eq_some_iff.mp hx).1
  have hval : es[i].val = e.val := by rw [(Array.getElem?_eq_some_iff.mp hx).2]
  simp only [show ¬ ((i : Int) < 0) from by omega, if_false, Int.toNat_natCast, Array.getElem?_eq_getElem hlt']
  refine wpAny_bind ?_
  first | refine wpAny_bind (wpAny_typeNameOfWhole_valiter hit.typeIs (wpAny_pure ?_)) | refine wpAny_bind (wpAny_typeNameOf_valiter hit.typeIs (wpAny_pure ?_))
  refine wpAny_bind (wpAny_isOneOf_valiter hit.typeIs ?_)
  show wpAny _ _ (setField (.ref it) 1 (rawInt ((i : Int) + 1)) >>= _) _ _ s
  refine wpAny_bind (wpAny_setField ho hd (by simp) ?_)
  have hit' : (s.heap.update it (Obj.mapFields (·.setIfInBounds 1 (rawInt ((i : Int) + 1))))).IsValIter it d (i + 1) es.size ep :=
    ⟨_, Heap.get?_update_self _ ho (Obj.isFreed_of_fields (Obj.data_mapFields hd _)), (Obj.cls_mapFields ..).trans hc, by rw [Obj.data_mapFields hd]; simp [rawInt]⟩
  refine wpAny_bind (wpAny_holding ?_)
  refine wpAny_bind (wpAny_isOneOf_valiter (s := { s with heap := s.heap.update it (Obj.mapFields (·.setIfInBounds 1 (rawInt ((i : Int) + 1)))) }) hit'.typeIs ?_)
  refine wpAny_bind (wpAny_isOneOf_valiter (s := { s with heap := s.heap.update it (Obj.mapFields (·.setIfInBounds 1 (rawInt ((i : Int) + 1)))) }) hit'.typeIs ?_)
  show wpAny _ _ (pure es[i].val) _ _ _
  exact wpAny_pure (wpAny_pure ⟨_, rfl, wpAny_pure (hval ▸ hQ _ hit' (Heap.SameBut.update ..))⟩)

theorem vals_end {it d : Addr} {i ep : Nat} {es : Array DictEntry} {Q : Option Value → Shared → Prop} (hh : A.handled = none) (hit : s.heap.IsValIter it d i es.size ep)
    (hm : RawDict s.heap d es ep) (hge : es.size ≤ i)
    (hQ : ∀ h', Heap.ExtBut it s.heap h' → Q none { s with heap := h' }) : wpAny (model prog w) A (pyNext (.ref it)) Q E s := by
  obtain ⟨o, ho, hc, hd⟩ := id hit
  unfold pyNext
  refine wpAny_bind (wpAny_attempt (wpAny_callSpecial?_slot (name := Str.ofString "__next__") hit.typeIs PySem.F.slot_dict_valueiterator_next
    (wpAny_call_entry PySem.F.slot_dict_valueiterator_next hit.typeIs PySem.F.entry_dict_valueiterator_next ?_ (PySem.F.args_dict_valueiterator_next_1 _))))
  refine wpAny_bind (wpAny_pure ?_)
  refine wpAny_bind ?_
  refine wpAny_bind ?_
  first | refine wpAny_bind (wpAny_typeNameOfWhole_valiter hit.typeIs (wpAny_pure ?_)) | refine wpAny_bind (wpAny_typeNameOf_valiter hit.typeIs (wpAny_pure ?_))
  refine wpAny_bind (wpAny_fieldsOf ho hd ?_)
  have hown : Builtin.Dict_items.ownsTuple "dict_valueiterator" = false := by decide
  simp only [hown, Bool.false_eq_true, if_false]
  show wpAny _ _ (if (Value.ref d == Value.none) = true then _ else _) _ _ s
  rw [if_neg (show ¬ ((Value.ref d == Value.none) = true) from Bool.false_ne_true)]
  refine wpAny_bind (wpAny_pure ?_)
  refine wpAny_bind (wpAny_dictEntries hm rfl ?_)
  rw [if_neg (by simp)]
  refine wpAny_bind (wpAny_pure ?_)
  refine wpAny_bind (wpAny_dictEpoch hm rfl ?_)
  rw [if_neg (by simp)]
  refine wpAny_pure ?_
  simp only [show ¬ ((i : Int) < 0) from by omega, if_false, Int.toNat_natCast, Array.getElem?_eq_none hge]
  refine wpAny_bind ?_
  first | refine wpAny_bind (wpAny_typeNameOfWhole_valiter hit.typeIs (wpAny_pure ?_)) | refine wpAny_bind (wpAny_typeNameOf_valiter hit.typeIs (wpAny_pure ?_))
  show wpAny _ _ (setField (.ref it) 0 .none >>= _) _ _ s
  refine wpAny_bind (wpAny_setField ho hd (by simp) ?_)
  show wpAny _ _ (newExc (.type "StopIteration") [] >>= _) _ _ _
  refine wpAny_bind ?_
  simp only [newExc, newTuple]
  refine wpAny_bind (wpAny_newObj_type ?_ (by size_fits))
  refine wpAny_bind (m := firstArgMember _ _) (wpAny_of_eq (a := Value.none) (by first | rfl | (simp only [firstArgMember]; rfl)) ?_)
  refine wpAny_newObj_type ?_ (by size_fits)
  simp only [raiseNew]
  refine wpAny_bind (wpAny_handled ?_)
  rw [show A.in1.handled = none from hh]
  refine wpAny_bind (wpAny_pure (wpAny_throw ?_))
  refine wpAny_bind (wpAny_isInstance (T := "StopIteration") (b := true) ⟨_, Heap.get?_push_size _ rfl, rfl⟩ isSubtype_stop ?_)
  exact wpAny_pure (hQ _ (((Heap.SameBut.update ..).extBut.push _).push _))

theorem walks_vals (hh : A.handled = none) (I d : Addr) (hne : d ≠ I) (es : Array DictEntry) (ep : Nat) :
    Walks prog w A I [I, d] [I] es.size (fun i v => ∃ e, es[i]? = some e ∧ v = e.val) (fun i h => h.IsValIter I d i es.size ep ∧ RawDict h d es ep) where
  sub := fun b hb => by simp at hb; simp [hb]
  frame := fun _ _ _ st hk => ⟨st.1.at fun o e => hk I (by simp) o e, hk d (by simp) _ st.2⟩
  item := fun i s Q E hi st hQ => by
    refine vals_item st.1 st.2 (e := es[i]) (by simp [hi]) fun h' hit' hs' => ?_
    exact hQ _ h' s.toks ⟨es[i], by simp [hi], rfl⟩ ⟨hit', (hs'.2 d hne).trans st.2⟩ fun b o hb e => hs'.extBut b o (fun h => hb (by simp [h])) e
  done := fun s Q E st hQ => vals_end hh st.1 st.2 (Nat.le_refl _) fun h' he' => hQ h' s.toks fun b o hb e => he' b o (fun h => hb (by simp [h])) e
  self := fun _ _ _ _ st hQ => wpAny_pyIter_valiter st.1 hQ
end
end Sw

namespace Sw
open PySem PySem.Calls PyProof.Rows

section
variable {prog : Program} {w : World} {B : Heap} {mg mb : Str → Option Value} {A : Around} {E : Value → Shared → Prop} {s : Shared} {μ : Mu} {σ : SH} {n : Nat} {env : Env} {ρ : Loc} {r : Rec} {T : Tab} {fp ws : List Addr} {h : Heap}

theorem stepW_snd {value : Expr} {lower : Expr} {step : Expr} {p : Pos} {o l : V} {x lv : Value} {t4 : Tok} {K : KE} (h : stepW o l σ K) (S : St prog w B μ σ s.heap) (ro : Rv μ s.heap o x) (rl : Rv μ s.heap l lv) :
    wpAny (model prog w) A (subscriptTail value (.Slice (some lower) none (some step) p) x (.ref s.heap.objs.size)) (Post prog w B Rv [] μ s K) noE { s with heap := s.heap.push { cls := .type "slice", data := .fields #[lv, .none, .int 4 t4] } } := by
  cases o with
  | ref k => cases l with
    | int j =>
      obtain ⟨o, hk, h⟩ := oP_is h
      cases o with
      | list vs =>
        obtain ⟨ns, hn, ⟨h1, h2, h3⟩, h⟩ := oP_is h
        obtain ⟨a, m, xs, hm, rfl, g, q⟩ := rv_list S ro hk
        unfold Rv at rl
        obtain ⟨t, rfl⟩ := rl
        have hi := rv_intsOf q hn
        have hl : xs.size = ns.length := by rw [← ints_len hi]; simp
        refine tail_any (T := "list") (ops := [.ref a, .ref s.heap.objs.size]) ⟨_, Heap.get?_push_of_some _ g, rfl⟩ slot_list_getitem.lookup
          (wpAny_getItem_list_slice (lo := some j) (hi := none) (st := some 4) ⟨_, Heap.get?_push_of_some _ g, rfl, _, rfl⟩ (Heap.IsSliceOf.new ..) (.int _ _) .none (.int _ _) (by decide) ?_ (by rw [hl, sizeLine_eq]; omega)) rfl
        have hp := IntsAre.pick (vs := xs.toList) hi (some j) none (some 4)
        have k1 : ∀ b o, s.heap.get? b = some o → (s.heap.push { cls := .type "slice", data := .fields #[.int j t, .none, .int 4 t4] }).get? b = some o := fun b o e => Heap.get?_push_of_some _ e
        refine post_list (s := s) S s.toks (fun b o e => Heap.get?_push_of_some _ (k1 b o e)) ?_ (Heap.get?_push_size _ rfl) (ints_rvs (μ := μ) (by simpa using hp)) (h _)
        exact Heap.get?_none_of_le (by rw [Heap.size_push]; exact Nat.le_succ _)
      | _ => exact h.elim
    | _ => exact h.elim
  | _ => exact h.elim

theorem comp_snd (G : Gr prog w B mg mb) (R : Snd prog w B n r) (hR : Room n A) {elt iter : Expr} {ifs : List Expr} {x : Str} {px pos : Pos} {sc : Scope} {K : KE} {cs : List (Str × V)} (hcs : capture ρ (frees sc) = some cs) (h : compOk sc x = true ∧ srcW r iter ρ σ fun S σ1 => (S.okT (.Name x default) ∧ S.items.length ≤ 1000) ∧ compW r elt x ifs S.still S.items ⟨inComp sc, cs⟩ σ1 fun vs σ2 => K (.ref σ2.length) (σ2 ++ [.list vs]))
    (S : St prog w B μ σ s.heap) (F : Fm B env ρ μ s.heap) :
    wpAny (model prog w) A (eval (.ListComp elt [⟨.Name x px, iter, ifs, 0⟩] sc pos) env) (Post prog w B Rv [] μ s K) noE s := by
  obtain ⟨hok, h⟩ := h
  obtain ⟨cl, hclos, hcaught⟩ := clo_snd F hcs
  obtain ⟨o1, o2, o3⟩ := compOk_is hok
  obtain ⟨h1, h2⟩ := srcW_snd G R hR h S F
  rw [eval_ListComp]
  refine wpAny_comprehension_free (use := none) rfl (notSet_folded h2 env) hclos o1 (fun y hy hl => by rw [(o3 y hy).2, hl]) (wpAny_mono h1 (fun xv s₁ q => wpAny_mono q (fun it s₂ q => ?_) fun _ _ e => e) fun _ _ e => e)
  obtain ⟨Sr, σ1, μ1, I, fp, At, Mid, rfl, ⟨⟨hT, hlen⟩, hL⟩, S1, X1, It, a0, P, hf, Y⟩ := q
  refine wpAny_newObj_type (wpAny_newFunctionEnv (fun y hy => (o3 y hy).1) (fun y hy => nomatch hy) (fun h' hn hs => ?_) o1)
  dsimp only at hn hs ⊢
  generalize hH : s₂.heap.push { cls := .type "list", dict := none, data := .seq ([] : List Value).toArray } = H2 at hn hs ⊢
  have hC : H2.objs.size = s₂.heap.objs.size + 1 := by rw [← hH, Heap.size_push]
  have hDC : s₂.heap.objs.size ≠ H2.objs.size := by rw [hC]; exact Nat.ne_of_lt (Nat.lt_succ_self _)
  have kH : ∀ b o, s₂.heap.get? b = some o → h'.get? b = some o := fun b o e => by
    have hb : b ≠ H2.objs.size := by rw [hC]; exact Nat.ne_of_lt (Nat.lt_succ_of_lt (Heap.lt_size e))
    rw [hs.2 b hb]
    exact Heap.get?_push_of_some _ (by rw [← hH]; exact Heap.get?_push_of_some _ e)
  have X2 : Ext [] μ1 s₂.heap μ1 h' := ext_of_keep _ _ kH
  have S2 := S1.kept kH
  have fresh : ∀ b, s₂.heap.objs.size ≤ b → s₂.heap.get? b = none := fun b hb => Heap.get?_none_of_le hb
  have nB : ∀ b, s₂.heap.objs.size ≤ b → b ∉ fpOf μ1 ∧ B.get? b = none := fun b hb => ⟨fun hm => absurd (S1.lt b hm) (Nat.not_lt.mpr hb), by
    cases q : B.get? b with
    | none => rfl
    | some o => exact absurd (Heap.lt_size (S1.keep _ _ q)) (Nat.not_lt.mpr hb)⟩
  have gD : h'.get? s₂.heap.objs.size = some { cls := .type "list", data := .seq #[] } := by
    rw [hs.2 _ hDC]
    exact Heap.get?_push_of_some _ (by rw [← hH]; exact Heap.get?_push_size _ rfl)
  have hCle : s₂.heap.objs.size ≤ H2.objs.size := by rw [hC]; exact Nat.le_succ _
  have F2 : Fm B (compEnvC sc cl H2.objs.size env) ⟨inComp sc, cs⟩ μ1 h' := comp_fm (F.ext X1) hok hcaught hn X2 (nB _ hCle).1 (nB _ hCle).2 (fresh _ hCle)
  have hwL : ∀ b, b ∈ wsOf (compEnvC sc cl H2.objs.size env) → b = H2.objs.size ∨ ∃ o, s.heap.get? b = some o := fun b hb => by
    rcases List.mem_cons.mp hb with rfl | hb
    · exact .inl rfl
    · right
      obtain ⟨p, hp, rfl⟩ := List.mem_map.mp hb
      have hp : p ∈ cl := hp
      rcases hcaught with ⟨_, rfl, _⟩ | ⟨n', c, u, e, rfl, rfl, q1, q2, q3⟩
      · cases hp
      · obtain rfl := List.mem_singleton.mp hp
        exact F.liveC q1
  have loop : codeAny (model prog w) A (.compLoop (.ListComp elt [⟨.Name x px, iter, ifs, 0⟩] sc pos) 0 (.ref I) (.ref s₂.heap.objs.size) (compEnvC sc cl H2.objs.size env))
      (compPost (model prog w) A noE none (Post prog w B Rv [] μ s K) (.ref s₂.heap.objs.size) H2.objs.size) { s₂ with heap := h', toks := s₂.toks + ([] : List (Str × Value)).length } := by
    refine compLoop_snd (s := s) (sc := inComp sc) R hR (It A hR.handled) hT (inComp_local hok) hf (X1.none (fresh _ (Nat.le_refl _))) (X1.none (fresh _ hCle)) (fun b hb hm => ?_) (fun hm => ?_) rfl (fun hm => ?_) hlen rfl hL S2 F2 (X1.trans X2)
      (It A hR.handled |>.frame a0 X2.up fun b _ o e => kH b o e) (P.ext X2 fun b _ hm => nomatch hm) ⟨fun b hb => ?_⟩ gD (Y.trans ⟨rfl, rfl, rfl⟩)
    · rcases hwL b hm with rfl | ⟨o, e⟩
      · obtain ⟨_, _, o, e, _⟩ := P.ap _ hb
        have := Heap.lt_size e
        rw [hC] at this
        exact Nat.lt_irrefl _ (Nat.lt_of_succ_lt this)
      · rw [hf b hb] at e; cases e
    · rcases hwL _ hm with e | ⟨o, e⟩
      · exact hDC e
      · rw [X1.none (fresh _ (Nat.le_refl _))] at e; cases e
    · obtain ⟨_, _, o, e, _⟩ := P.ap _ hm
      exact absurd (Heap.lt_size e) (Nat.lt_irrefl _)
    · obtain rfl := List.mem_singleton.mp hb
      exact ⟨(nB _ (Nat.le_refl _)).1, (nB _ (Nat.le_refl _)).2, _, gD, ne_name (by decide)⟩
  refine codeAny_compStart_list loop (wpAny_mono ((It A hR.handled).self (Q := fun v s' => v = .ref I ∧ s' = { s₂ with heap := h', toks := s₂.toks + ([] : List (Str × Value)).length }) ((It A hR.handled).frame a0 X2.up fun b _ o e => kH b o e) ⟨rfl, rfl⟩) (fun v s' q => ?_) fun _ _ e => e.elim)
  obtain ⟨rfl, rfl⟩ := q
  exact loop
end
end Sw

namespace Sw
open PySem PySem.Calls PyProof.Rows

noncomputable def headAt (h : Heap) (v : Value) : Int := match v with
  | .ref a => match h.get? a with
    | some o => match o.data with
      | .seq xs _ => match xs[0]? with
        | some (Value.int i _) => i
        | _ => 0
      | _ => 0
    | none => 0
  | _ => 0

section
variable {prog : Program} {w : World} {B : Heap} {mg mb : Str → Option Value} {A : Around} {E : Value → Shared → Prop} {s : Shared} {μ : Mu} {σ : SH} {n : Nat} {env : Env} {ρ : Loc} {r : Rec} {T : Tab} {fp ws : List Addr} {h : Heap}

theorem head_is (S : St prog w B μ σ h) {v : V} {y : Value} {i : Int} (h1 : headOf σ v = some i) (rv : Rv μ h v y) : ∃ a xs m t, y = .ref a ∧ h.get? a = some { cls := .type "list", data := .seq xs m } ∧ xs[0]? = some (.int i t) := by
  cases v with
  | ref j =>
    obtain ⟨o, hk, h1⟩ := Option.bind_eq_some_iff.mp h1
    cases o with
    | list vs => cases vs with
      | nil => exact no_none h1
      | cons v r => cases v with
        | int i' =>
          have h1 : (if r.length < 1000 then some i' else none) = some i := h1
          by_cases q : r.length < 1000
          · rw [if_pos q] at h1
            obtain rfl := Option.some.inj h1
            obtain ⟨a, m, xs, hm, ea, g, q⟩ := rv_list S rv hk
            obtain ⟨y, hy, ry⟩ := at_arr q (j := 0) rfl
            unfold Rv at ry
            obtain ⟨t, rfl⟩ := ry
            exact ⟨a, xs, m, t, ea, g, hy⟩
          · rw [if_neg q] at h1
            exact no_none h1
        | _ => exact no_none h1
    | _ => exact no_none h1
  | _ => exact no_none h1
theorem heads_are (S : St prog w B μ σ h) : ∀ {kvs : List (V × V)} {es : List DictEntry} {is : List Int}, Rk prog w μ h kvs es → headsOf σ kvs = some is →
    (∀ e ∈ es, ∃ a xs m t, e.val = .ref a ∧ h.get? a = some { cls := .type "list", data := .seq xs m } ∧ xs[0]? = some (.int (headAt h e.val) t)) ∧ es.map (fun e => headAt h e.val) = is
  | [], es, is, hr, hi => by
    unfold Rk at hr
    subst hr
    cases hi
    exact ⟨fun _ he => (nomatch he), rfl⟩
  | p :: ps, es, is, hr, hi => by
    unfold Rk at hr
    obtain ⟨e, es, rfl, ⟨_, rv, _⟩, hr⟩ := hr
    obtain ⟨i, h1, hi⟩ := Option.bind_eq_some_iff.mp hi
    obtain ⟨is', h2, rfl⟩ := Option.map_eq_some_iff.mp hi
    obtain ⟨q1, q2⟩ := heads_are S hr h2
    obtain ⟨a, xs, m, t, ea, g, hx⟩ := head_is S h1 rv
    have hh : headAt h e.val = i := by
      rw [ea]
      show (match h.get? a with
        | some o => match o.data with
          | .seq xs _ => match xs[0]? with
            | some (Value.int i _) => i
            | _ => 0
          | _ => 0
        | none => 0) = i
      rw [g]
      dsimp only
      rw [hx]
    refine ⟨fun e' he => ?_, by rw [List.map_cons, hh, q2]⟩
    rcases List.mem_cons.mp he with rfl | he
    · exact ⟨a, xs, m, t, ea, g, by rw [hh]; exact hx⟩
    · exact q1 e' he

theorem head_eval {x : Str} {p1 p2 p3 : Pos} {k : Nat} {m : Str → Option Value} {a : Addr} {xs : Array Value} {j : Nat} {i : Int} {t : Tok} {Q : Value → Shared → Prop} (hk : env.scope.kind = .function) (hx : env.kindOf x = some .local)
    (hd : (x == ("__debug__" : Str)) = false) (hn : s.heap.Ns env.locals m) (hm : m x = some (.ref a)) (g : s.heap.get? a = some { cls := .type "list", data := .seq xs j }) (h0 : xs[0]? = some (.int i t))
    (h : Q (.int i t) { s with toks := s.toks + 1 }) : wpAny (model prog w) A (eval (.Subscript (.Name x p1) (.Constant (.int 0) k p2) p3) env) Q E s := by
  refine Subscript_ (wpAny_Name (wpAny_loadName_local hk hx hn hm (wpAny_Constant_int ?_)) hd)
  refine tail_any (T := "list") (s := { s with toks := s.toks + 1 }) ⟨_, g, rfl⟩ slot_list_getitem.lookup (wpAny_getItem_list (s := { s with toks := s.toks + 1 }) ⟨_, g, rfl, _, rfl⟩ (Int.le_refl 0) (by decide) h0 h) (sub_plain _ _ _ fun _ _ _ _ q => nomatch q)

theorem paired_heads {μ : Mu} {h' : Heap} {f : Value → Int} : ∀ {vs ys : List Value}, Paired (fun v y => ∃ t, y = .int (f v) t) vs ys → Rvs μ h' ((vs.map f).map .int) ys := fun q => by
  induction q with
  | nil => exact Rvs.nil
  | cons h q ih =>
    obtain ⟨t, e⟩ := h
    subst e
    exact Rvs.cons (rv_int _ _) ih

theorem vals_list : ∀ {es : List DictEntry} {vs : List Value}, vs.length = es.length → (∀ (j : Nat) v, vs[j]? = some v → ∃ e, es[j]? = some e ∧ v = e.val) → vs = es.map (·.val)
  | [], vs, hl, _ => List.eq_nil_of_length_eq_zero hl
  | e :: es, [], hl, _ => by cases hl
  | e :: es, v :: vs, hl, hj => by
    obtain ⟨e', h1, h2⟩ := hj 0 v rfl
    cases h1
    subst h2
    rw [List.map_cons, ← vals_list (Nat.succ.inj hl) fun j v h => hj (j + 1) v h]

theorem any_is {α : Type} {o : Option α} {f : α → Bool} (h : o.any f = true) : ∃ a, o = some a ∧ f a = true := by
  cases o with
  | none => exact no_bool h
  | some a => exact ⟨a, rfl, h⟩
/-- whether the head of x is above zero -/
inductive IsGt (e : Expr) (x : Str) : Prop
  | mk (p1 : Pos) (k : Nat) (p2 p3 : Pos) (k3 : Nat) (p4 p5 : Pos) (h : e = .Compare (.Subscript (.Name x p1) (.Constant (.int 0) k p2) p3) [.Gt] [.Constant (.int 0) k3 p4] p5)
theorem gt0_is {e : Expr} {x : Str} (h : gt0 e = some x) : IsGt e x :=
  Expr.Compare.elim (motive_1 := fun e => gt00 e = some x → IsGt e x) e (kd_eq (cond_is h).1) (fun a ops es p5 h => by
    have h1 := Bool.and_eq_true_iff.mp (cond_is h).1
    obtain ⟨op, h3, h5⟩ := any_is h1.1
    obtain ⟨z, h4, h6⟩ := any_is h1.2
    obtain ⟨k3, p4, rfl⟩ := intE_is (eq_of_beq h6)
    obtain ⟨p1, k, p2, p3, rfl⟩ := sub0_is (cond_is h).2
    obtain rfl := one_is h3
    obtain rfl := one_is h4
    cases op with
    | Gt => exact ⟨p1, k, p2, p3, k3, p4, p5, rfl⟩
    | _ => exact no_bool h5) (cond_is h).2
theorem notCall_is {o : Expr} (h : notCall o = true) : NoCall o := fun f a k p e => by subst e; exact no_bool h
theorem valA_is {f o : Expr} {l : Nat} (h : valA f l = some o) : ∃ ap, f = .Attribute o ("values" : Str) ap ∧ (ap.endLine == l) = true ∧ NoCall o :=
  Expr.Attribute.elim (motive_1 := fun f => valA0 f l = some o → ∃ ap, f = .Attribute o ("values" : Str) ap ∧ (ap.endLine == l) = true ∧ NoCall o) f (kd_eq (cond_is h).1) (fun o' m ap h => by
    have h6 := Option.some.inj (cond_is h).2
    subst h6
    have h5 := Bool.and_eq_true_iff.mp (cond_is h).1
    have h9 := Bool.and_eq_true_iff.mp h5.1
    obtain rfl := eq_of_beq h9.1
    exact ⟨ap, rfl, h9.2, notCall_is h5.2⟩) (cond_is h).2
theorem valE_is {e o : Expr} (h : valE e = some o) : ∃ ap p, e = .Call (.Attribute o ("values" : Str) ap) [] [] p ∧ (ap.endLine == p.line) = true ∧ NoCall o :=
  Expr.Call.elim (motive_1 := fun e => valE0 e = some o → ∃ ap p, e = .Call (.Attribute o ("values" : Str) ap) [] [] p ∧ (ap.endLine == p.line) = true ∧ NoCall o) e (kd_eq (cond_is h).1) (fun f as ks p h => by
    have h1 := Bool.and_eq_true_iff.mp (cond_is h).1
    have h4 : valA f p.line = some o := (cond_is h).2
    obtain rfl := List.isEmpty_iff.mp h1.1
    obtain rfl := List.isEmpty_iff.mp h1.2
    obtain ⟨ap, rfl, h2, h3⟩ := valA_is h4
    exact ⟨ap, p, rfl, h2, h3⟩) (cond_is h).2
/-- the heads of a dict's values -/
inductive IsVals (elt o : Expr) (gens : List Comprehension) (sc : Scope) : Prop
  | mk (x : Str) (p1 : Pos) (k1 : Nat) (p2 p3 p4 ap p p5 : Pos) (k2 : Nat) (p6 p7 : Pos) (k3 : Nat) (p8 p9 : Pos) (e : elt = .Subscript (.Name x p1) (.Constant (.int 0) k1 p2) p3)
      (g : gens = [⟨.Name x p4, .Call (.Attribute o ("values" : Str) ap) [] [] p, [.Compare (.Subscript (.Name x p5) (.Constant (.int 0) k2 p6) p7) [.Gt] [.Constant (.int 0) k3 p8] p9], 0⟩])
      (hl : (ap.endLine == p.line) = true) (hn : NoCall o) (c : (compOk sc x = true ∧ sc.names.all (fun y => y.2 != .free) = true) ∧ (x != ("__debug__" : Str)) = true)
theorem valsOne_is {elt o it t tg : Expr} {as : Int} {sc : Scope} (h : valsOne elt ⟨tg, it, [t], as⟩ t sc = some o) : IsVals elt o [⟨tg, it, [t], as⟩] sc := by
  have h : (match sub0 elt with
    | some x => cond (nmE tg == some x && gt0 t == some x && as == 0 && compOk sc x && sc.names.all (fun y => y.2 != .free) && x != ("__debug__" : Str)) (valE it) none
    | none => none) = some o := h
  revert h
  cases h3 : sub0 elt with
  | none => exact no_none
  | some x =>
    intro h
    have c6 := Bool.and_eq_true_iff.mp (cond_is h).1
    have c5 := Bool.and_eq_true_iff.mp c6.1
    have c4 := Bool.and_eq_true_iff.mp c5.1
    have c3 := Bool.and_eq_true_iff.mp c4.1
    have c1 := Bool.and_eq_true_iff.mp c3.1
    obtain ⟨p1, k1, p2, p3, e3⟩ := sub0_is h3
    obtain ⟨p4, e4⟩ := nmE_is (eq_of_beq c1.1)
    obtain ⟨p5, k2, p6, p7, k3, p8, p9, e2⟩ := gt0_is (eq_of_beq c1.2)
    obtain ⟨ap, p, e5, hl, hn⟩ := valE_is (cond_is h).2
    exact ⟨x, p1, k1, p2, p3, p4, ap, p, p5, k2, p6, p7, k3, p8, p9, e3, by rw [e4, e5, e2, eq_of_beq c3.2], hl, hn, ⟨c4.2, c5.2⟩, c6.2⟩
theorem valsComp_is {elt o : Expr} {gens : List Comprehension} {sc : Scope} (h : valsComp elt gens sc = some o) : IsVals elt o gens sc := by
  have h : (match one gens with
    | some g => match one g.ifs with
      | some t => valsOne elt g t sc
      | none => none
    | none => none) = some o := h
  revert h
  cases h1 : one gens with
  | none => exact no_none
  | some g =>
    obtain ⟨tg, it, ts, as⟩ := g
    dsimp only
    cases h2 : one ts with
    | none => exact no_none
    | some t =>
      intro h
      obtain rfl := one_is h2
      rw [one_is h1]
      exact valsOne_is h

theorem heads_snd (G : Gr prog w B mg mb) (R : Snd prog w B n r) (hR : Room n A) {elt o : Expr} {gens : List Comprehension} {pos : Pos} {sc : Scope} {K : KE} (hv : valsComp elt gens sc = some o) (h : r.e o ρ σ fun v σ1 => headsW v σ1 K)
    (S : St prog w B μ σ s.heap) (F : Fm B env ρ μ s.heap) : wpAny (model prog w) A (eval (.ListComp elt gens sc pos) env) (Post prog w B Rv [] μ s K) noE s := by
  obtain ⟨x1, p1, k1, p2, p3, p4, ap, p, p5, k2, p6, p7, k3, p8, p9, rfl, rfl, hl, ho, ⟨hok, hfr⟩, hdb⟩ := valsComp_is hv
  have hdb : (x1 == ("__debug__" : Str)) = false := by simpa using hdb
  have hfr := List.all_eq_true.mp hfr
  obtain ⟨o1, o2, o3⟩ := compOk_is hok
  have hfree : ∀ y ∈ sc.names, y.2 ≠ .free := fun y hy => by simpa using hfr y hy
  have hcell : ∀ y ∈ sc.names, y.2 ≠ .cell := fun y hy => (o3 y hy).1
  refine wpAny_ListComp hfree o1 (fun y hy hl => by rw [(o3 y hy).2, hl]) ?_
  refine wpAny_Call_method (T := "dict") (id := "dict.values") (base_plain ho _ _ _) rfl (by simpa using hl) PySem.F.plainAttrs_dict PySem.F.slot_dict_values PySem.F.type_dict_values (wp_then (R.e hR h S F) fun v x σ1 μ1 s1 hK S1 X1 r1 Y1 => ?_)
  cases v with
  | ref k =>
    obtain ⟨o, hk, hK⟩ := oP_is hK
    cases o with
    | dict kvs =>
      obtain ⟨is, his, hK⟩ := oP_is hK
      obtain ⟨hlen, hK⟩ := hK
      obtain ⟨d, hd, rfl, D⟩ := rv_dict S1 r1 hk
      obtain ⟨ep, es, ho, hr⟩ := D.ex
      have hne := S1.notModules G.mods hd
      refine ⟨D.typeIs, fun a e => by cases e; exact ⟨_, ho, rfl⟩, callWith_builtin rfl (PySem.evalArgs_none ?_)⟩
      refine call_meetsIn PySem.F.slot_dict_values D.typeIs PySem.F.entry_dict_values (PySem.F.args_dict_values_1 _) (vals_meets d hne es ep) ⟨ho, ?_⟩
      have g1 : ∀ b ob, s1.heap.get? b = some ob → (s1.heap.push { cls := .type "dict_values", data := .fields #[.ref d] }).get? b = some ob := fun b ob e => Heap.get?_push_of_some _ e
      refine vals_iter ⟨_, Heap.get?_push_size _ rfl, rfl, rfl⟩ (g1 _ _ ho) ?_
      generalize hH : s1.heap.push { cls := .type "dict_values", data := .fields #[.ref d] } = H1 at g1
      have g2 : ∀ b ob, s1.heap.get? b = some ob → (H1.push { cls := .type "dict_valueiterator", data := .fields #[.ref d, .int 0 0, .int es.size 0, .int ep 0] }).get? b = some ob := fun b ob e => Heap.get?_push_of_some _ (g1 b ob e)
      have hI : ∀ b ob, s1.heap.get? b = some ob → b ≠ H1.objs.size := fun b ob e => Nat.ne_of_lt (Heap.lt_size (g1 b ob e))
      obtain ⟨hs1, hs2⟩ := heads_are S1 hr his
      refine comp_block_walk (RR := fun acc cenv r s' => ∃ m, s'.heap.Ns cenv.locals m ∧ ∀ h', Heap.SameBut cenv.locals s'.heap h' →
        match r with | .ok _ => Post prog w B Rv [] μ s K acc { s' with heap := h' } | .error x => wpAny (model prog w) A (passOn "comprehension.variables-let-go" x cenv) (Post prog w B Rv [] μ s K) noE { s' with heap := h' })
        (walks_vals hR.handled H1.objs.size d (hI _ _ ho) es ep) (by
          have : es.size = kvs.length := by rw [← hr.length]; simp
          rw [this, sizeLine_eq]; omega) (fun v => decide (headAt s1.heap v > 0)) (fun v y => ∃ t, y = .int (headAt s1.heap v) t) hcell o1 o2
        ⟨⟨_, Heap.get?_push_size _ rfl, rfl, rfl⟩, g2 _ _ ho⟩ (fun b hb => ?_) ⟨fun C i v s₃ m₃ E' hP hn hm hk' _ => ?_, fun C i v s₃ m₃ E' hP hp hn hm hk' _ => ?_⟩ ?_
      · rw [Heap.size_push]
        rcases List.mem_cons.mp hb with rfl | hb
        · exact Nat.lt_succ_self _
        · obtain rfl := List.mem_singleton.mp hb
          exact Nat.lt_succ_of_lt (Heap.lt_size (g1 _ _ ho))
      · obtain ⟨e, he, rfl⟩ := hP
        obtain ⟨a, xs, mm, t, ea, g, hx⟩ := hs1 e (Array.mem_toList_iff.mpr (Array.mem_of_getElem? he))
        have g3 := hk' a _ (fun q => hI a _ g (by simpa using q)) (g2 _ _ g)
        refine wpAny_tests_one (wpAny_isTrue_Compare1 (head_eval (by simpa [compEnv] using o1) o2 hdb hn (by rw [hm, ea]) g3 hx (wpAny_Constant_int ?_)))
        exact PySem.P.gt_int (wpAny_truthy_bool ⟨rfl, _, _, rfl, fun _ _ q => q⟩)
      · obtain ⟨e, he, rfl⟩ := hP
        obtain ⟨a, xs, mm, t, ea, g, hx⟩ := hs1 e (Array.mem_toList_iff.mpr (Array.mem_of_getElem? he))
        have g3 := hk' a _ (fun q => hI a _ g (by simpa using q)) (g2 _ _ g)
        exact head_eval (by simpa [compEnv] using o1) o2 hdb hn (by rw [hm, ea]) g3 hx ⟨⟨t, rfl⟩, _, _, rfl, fun _ _ q => q⟩
      · intro D' C h' tk m' ys vs hD hC hDC hn hl' hpl hlen' hP hF hk'
        refine ⟨m', hn, fun h'' hs'' => ?_⟩
        obtain ⟨nn, gD⟩ := hpl
        have vs_is := vals_list (es := es.toList) (by rw [hlen']; simp) fun j v hj => by
          obtain ⟨e, h1, h2⟩ := hP j v hj
          exact ⟨e, by rw [← h1]; simp, h2⟩
        have ef : (vs.filter fun v => decide (headAt s1.heap v > 0)).map (headAt s1.heap) = is.filter fun i => decide (i > 0) := by
          rw [← hs2, vs_is, List.filter_map, List.map_map, List.filter_map]
          rfl
        have rr := paired_heads (μ := μ1) (h' := h'') hF
        rw [ef] at rr
        refine (post_list (s := s1) S1 tk (fun b ob e => ?_) ?_ (hs''.extBut _ _ hDC gD) rr hK).back X1 Y1
        · have h1 := hk' b ob (fun q => hI b _ e (by simpa using q)) (g2 b ob e)
          refine hs''.extBut b ob (fun q => ?_) h1
          have q : b = C := q
          subst q
          exact absurd ((g2 _ _ e).symm.trans hC) (fun z => nomatch z)
        · cases q : s1.heap.get? D' with
          | none => rfl
          | some ob => exact absurd ((g2 _ _ q).symm.trans hD) (fun z => nomatch z)
    | _ => exact hK.elim
  | _ => exact hK.elim
end
end Sw

namespace Sw
open PySem PySem.Calls PyProof.Rows

section
variable {prog : Program} {w : World} {B : Heap} {mg mb : Str → Option Value} {A : Around} {s : Shared} {μ : Mu} {σ : SH} {n : Nat} {env : Env} {ρ : Loc} {r : Rec} {T : Tab}

theorem isCall_no {o : Expr} (h : isCall o = false) : NoCall o := fun f a k p e => by subst e; exact no_bool h.symm

theorem slcW_snd (R : Snd prog w B n r) (hR : Room n A) {a : Expr} {lo hi st : Option Expr} {p q : Pos} {K : KE} (h : slcW r a lo hi st ρ σ K) (S : St prog w B μ σ s.heap) (F : Fm B env ρ μ s.heap) :
    wpAny (model prog w) A (eval (.Subscript a (.Slice lo hi st q) p) env) (Post prog w B Rv [] μ s K) noE s := by
  cases st with
  | none => exact slice_snd R hR h S F
  | some c => cases lo with
    | none => exact h.elim
    | some lo => cases hi with
      | some _ => exact h.elim
      | none =>
        obtain ⟨hc, h⟩ := ck.and h
        obtain ⟨k, q2, rfl⟩ := intE_is hc
        refine Subscript_ (wp_then (R.e hR h S F) fun x u σ1 μ1 s1 hK S1 X1 r1 Y1 => wpAny_Slice (wp_then (R.e hR hK S1 (F.ext X1)) fun l ul σ2 μ2 s2 hK2 S2 X2 r2 Y2 => evalPart_none_step (evalPart_some_step (wpAny_Constant_int ?_))))
        exact wpAny_mono (stepW_snd (s := { s2 with toks := s2.toks + 1 }) hK2 S2 (r1.up X2.up) r2) (fun _ _ P => P.back (s₁ := { s2 with toks := s2.toks + 1 }) (X1.trans X2) ((Y1.trans Y2).trans ⟨rfl, rfl, rfl⟩)) fun _ _ e => e

theorem stepE_snd (G : Gr prog w B mg mb) (TO : TabOk prog w B mg T n) (R : Snd prog w B n r) (hR : Room n A) {e : Expr} {K : KE} (h : stepE T n r e ρ σ K) (S : St prog w B μ σ s.heap) (F : Fm B env ρ μ s.heap) :
    wpAny (model prog w) A (eval e env) (Post prog w B Rv [] μ s K) noE s := by
  cases e with
  | Constant c k p => exact const_snd S h
  | Name x p => exact name_snd G TO S F h
  | BoolOp op es p => exact boolW_snd op p R hR h S F
  | BinOp a op b p => exact bin_snd R hR h S F
  | UnaryOp op a p => exact un_snd R hR h S F
  | IfExp t a b p => exact ifx_snd R hR h S F
  | Tuple es k p => exact tup_snd R hR (ck.and h).1 (ck.and h).2 S F
  | List es p => exact list_snd R hR (ck.and h).1 (ck.and h).2 S F
  | Dict ks vs p => exact dict_snd R hR (ck.and h).1 (ck.and h).2 S F
  | Compare a ops es p => exact cmp_snd G R hR h S F
  | Subscript a i p =>
    have h : (match slcE i with
      | some p => slcW r a p.1 p.2.1 p.2.2 ρ σ K
      | none => r.e a ρ σ fun x σ1 => r.e i ρ σ1 fun j σ2 => getI x j σ2 K) := h
    revert h
    cases hi : slcE i with
    | none =>
      have hn : ∀ a b c d, i ≠ .Slice a b c d := fun a b c d q => by subst q; exact nomatch hi
      exact fun h => sub_snd R hR hn h S F
    | some q =>
      intro h
      obtain ⟨q2, rfl⟩ := slcE_is hi
      exact slcW_snd R hR h S F
  | Attribute a m p => exact attr_snd G R hR (isCall_no (ck.and h).1) (ck.and h).2 S F
  | ListComp elt gens sc p =>
    have h : (match valsComp elt gens sc with
      | some o => r.e o ρ σ fun v σ1 => headsW v σ1 K
      | none => oneP gens fun g => genW r elt g sc ρ σ K) := h
    revert h
    cases ho : valsComp elt gens sc with
    | some o => exact fun h => heads_snd G R hR ho h S F
    | none =>
      intro h
      obtain ⟨⟨tg, it, ifs, as⟩, e, h⟩ := one_prop h
      obtain ⟨x, hx, h⟩ := oP_is h
      obtain ⟨cs, hcs, h⟩ := oP_is h
      obtain ⟨hz, h⟩ := ck.and h
      obtain ⟨q, e2⟩ := nmE_is hx
      obtain rfl : tg = .Name x q := e2
      obtain rfl : as = 0 := hz
      rw [e]
      exact comp_snd G R hR hcs h S F
  | Call f args ks p => cases ks with
    | cons k ks => exact h.elim
    | nil => cases f with
      | Name f fp =>
        obtain ⟨⟨hg, hs, hl⟩, h⟩ := ck.and h
        have h : (match isBuiltin f with
          | true => evs r args ρ σ fun vs σ1 => biW f vs σ1 K
          | false => oP (T.fn f) fun p => ck (p.1 ≤ n) (evs r args ρ σ fun vs σ1 => p.2 vs σ1 K)) := h
        revert h
        cases hb : isBuiltin f with
        | true => exact fun h => call_bi G R hR hg hs hb h S F
        | false =>
          intro h
          obtain ⟨⟨m, P⟩, hT, h⟩ := oP_is h
          exact call_fn G TO R hR hg hs hT (ck.and h).1 (ck.and h).2 S F
      | Attribute o m ap =>
        obtain ⟨⟨ho, hl, hs, hn⟩, h⟩ := ck.and h
        exact call_meth G R hR (isCall_no ho) hl hs hn h S F
      | _ => exact h.elim
  | _ => exact h.elim

theorem stepT_snd (G : Gr prog w B mg mb) (R : Snd prog w B n r) (hR : Room n A) {e : Expr} {K : Bool → SH → Prop} (h : stepT r e ρ σ K) (S : St prog w B μ σ s.heap) (F : Fm B env ρ μ s.heap) :
    wpAny (model prog w) A (isTrue e env (eval e env)) (Post prog w B eqR [] μ s K) noE s := by
  cases e with
  | UnaryOp op a p =>
    cases op with
    | Not => exact notT_snd R hR h S F
    | _ => exact plainT_snd rfl (R.e hR h S F)
  | BoolOp op es p => exact wpAny_isTrue_BoolOp (boolT_snd op R hR h S F)
  | IfExp t a b p => exact ifxT_snd R hR h S F
  | Compare a ops es p => exact cmpT_snd G R hR h S F
  | _ => exact plainT_snd rfl (R.e hR h S F)

theorem ev_snd (G : Gr prog w B mg mb) : ∀ n, TabOk prog w B mg T n → Snd prog w B n (ev T n)
  | 0, _ => ⟨fun _ h => h.elim, fun _ h => h.elim, fun _ h => h.elim⟩
  | n + 1, TO => by
    have R := ev_snd G n (TO.mono (Nat.le_succ n))
    exact ⟨fun hR h S F => stepE_snd G (TO.mono (Nat.le_succ n)) R (hR.mono (Nat.le_succ n)) h S F, fun hR h S F => stepT_snd G R (hR.mono (Nat.le_succ n)) h S F, fun hR h S F => stepS_snd G R (hR.mono (Nat.le_succ n)) h S F⟩
end
end Sw

namespace Sw
open PySem PySem.Calls PyProof.Rows

noncomputable def scCells (names : List (Str × NameKind)) : List (Str × NameKind) := names.filter fun y => y.2 == .cell
noncomputable def oneCell (names : List (Str × NameKind)) : Bool := match scCells names with
  | [] => true
  | [_] => true
  | _ => false
noncomputable def defOk (sc : Scope) (ns : List Str) : Bool := sc.kind == .function && !sc.isGenerator && !sc.isCoroutine && oneCell sc.names && (sc.names.all fun y => y.2 != .cell || sc.names.lookup y.1 == some y.2) &&
  (ns.all fun x => sc.names.lookup x == some .local || sc.names.lookup x == some .cell) && decide ns.Nodup

theorem cells_from : ∀ (names : List (Str × NameKind)) (k : Nat) (acc : List (Str × Addr)), (scCells names = [] → cellsFrom k names acc = acc) ∧ (∀ y, scCells names = [y] → cellsFrom k names acc = (y.1, k) :: acc)
  | [], k, acc => ⟨fun _ => rfl, fun _ h => (nomatch h)⟩
  | (m, kd) :: r, k, acc => by
    cases hk : (kd == NameKind.cell) with
    | true =>
      have e : scCells ((m, kd) :: r) = (m, kd) :: scCells r := by simp [scCells, hk]
      have e2 : cellsFrom k ((m, kd) :: r) acc = cellsFrom (k + 1) r ((m, k) :: acc) := by rw [cellsFrom]; rw [if_pos hk]
      rw [e, e2]
      refine ⟨fun h => (nomatch h), fun y h => ?_⟩
      obtain ⟨q1, q2⟩ := List.cons.inj h
      subst q1
      exact (cells_from r (k + 1) ((m, k) :: acc)).1 q2
    | false =>
      have e : scCells ((m, kd) :: r) = scCells r := by simp [scCells, hk]
      have e2 : cellsFrom k ((m, kd) :: r) acc = cellsFrom k r acc := by rw [cellsFrom]; rw [if_neg (by rw [hk]; decide)]
      rw [e, e2]
      exact cells_from r k acc

theorem bindL_skip {kd : Str → Option NameKind} {x : Str} : ∀ {bs : List (Str × Value)} {m : Str → Option Value}, x ∉ bs.map (·.1) → bindL kd bs m x = m x
  | [], m, _ => rfl
  | (n, v) :: r, m, h => by
    rw [List.map_cons, List.mem_cons, not_or] at h
    rw [bindL, bindL_skip h.2]
    split
    · exact if_neg h.1
    · rfl
theorem bindL_at {kd : Str → Option NameKind} {x : Str} {y : Value} (hk : kd x = some .local) : ∀ {bs : List (Str × Value)} {m : Str → Option Value}, (bs.map (·.1)).Nodup → bs.lookup x = some y → bindL kd bs m x = some y
  | [], m, _, h => by cases h
  | (n, v) :: r, m, hn, h => by
    rw [List.map_cons, List.nodup_cons] at hn
    rw [bindL]
    cases hx : (x == n) with
    | true =>
      have : x = n := by simpa using hx
      subst this
      rw [bindL_skip hn.1, if_pos hk, if_pos rfl]
      simpa [List.lookup, hx] using h
    | false =>
      exact bindL_at hk hn.2 (by simpa [List.lookup, hx] using h)
theorem bindC_skip {kd : Str → Option NameKind} {x : Str} : ∀ {bs : List (Str × Value)} {m : Str → Option Value}, x ∉ bs.map (·.1) → bindC kd bs m x = m x
  | [], m, _ => rfl
  | (n, v) :: r, m, h => by
    rw [List.map_cons, List.mem_cons, not_or] at h
    rw [bindC, bindC_skip h.2]
    split
    · rfl
    · exact if_neg h.1
theorem bindC_at {kd : Str → Option NameKind} {x : Str} {y : Value} (hk : kd x ≠ some .local) : ∀ {bs : List (Str × Value)} {m : Str → Option Value}, (bs.map (·.1)).Nodup → bs.lookup x = some y → bindC kd bs m x = some y
  | [], m, _, h => by cases h
  | (n, v) :: r, m, hn, h => by
    rw [List.map_cons, List.nodup_cons] at hn
    rw [bindC]
    cases hx : (x == n) with
    | true =>
      have : x = n := by simpa using hx
      subst this
      rw [bindC_skip hn.1, if_neg hk, if_pos rfl]
      simpa [List.lookup, hx] using h
    | false =>
      exact bindC_at hk hn.2 (by simpa [List.lookup, hx] using h)

theorem zip_lookup {μ : Mu} {h : Heap} {x : Str} : ∀ {ns : List Str} {vs : List V} {xs : List Value} {v : V}, Rvs μ h vs xs → (ns.zip vs).lookup x = some v → ∃ y, (ns.zip xs).lookup x = some y ∧ Rv μ h v y
  | [], _, _, _, _, e => by cases e
  | n :: ns, [], _, _, _, e => by cases e
  | n :: ns, u :: vs, xs, v, r, e => by
    unfold Rvs at r
    obtain ⟨y, ys, rfl, a, b⟩ := r
    rw [List.zip_cons_cons] at e ⊢
    cases hx : (x == n) with
    | true =>
      simp only [List.lookup, hx] at e ⊢
      cases e
      exact ⟨y, rfl, a⟩
    | false =>
      simp only [List.lookup, hx] at e ⊢
      exact zip_lookup b e
theorem zip_mem {β : Type} {x : Str} {v : β} : ∀ {ns : List Str} {vs : List β}, (ns.zip vs).lookup x = some v → x ∈ ns := fun h => (List.of_mem_zip (mem_lookup h)).1

section
variable {prog : Program} {w : World} {B : Heap} {mg mb : Str → Option Value} {A : Around} {s : Shared} {μ : Mu} {σ : SH} {n : Nat} {env : Env} {ρ : Loc} {r : Rec} {T : Tab} {fp ws : List Addr} {h : Heap}

theorem defOk_is {sc : Scope} {ns : List Str} (h : defOk sc ns = true) : sc.kind = .function ∧ sc.isGenerator = false ∧ sc.isCoroutine = false ∧ (scCells sc.names = [] ∨ ∃ y, scCells sc.names = [y]) ∧
    (∀ y ∈ sc.names, y.2 = .cell → sc.names.lookup y.1 = some .cell) ∧ (∀ x ∈ ns, sc.names.lookup x = some .local ∨ sc.names.lookup x = some .cell) ∧ ns.Nodup := by
  unfold defOk at h
  simp only [Bool.and_eq_true, List.all_eq_true, Bool.or_eq_true, beq_iff_eq, Bool.not_eq_true', decide_eq_true_eq] at h
  obtain ⟨⟨⟨⟨⟨⟨h1, h2⟩, h3⟩, h4⟩, h5⟩, h6⟩, h7⟩ := h
  refine ⟨h1, h2, h3, ?_, fun y hy e => ?_, h6, h7⟩
  · unfold oneCell at h4
    split at h4
    · rename_i e; exact .inl e
    · rename_i y e; exact .inr ⟨y, e⟩
    · cases h4
  · rcases h5 y hy with q | q
    · rw [e] at q; exact absurd q (by decide)
    · rw [q, e]

noncomputable def retK (K : KE) : KS := fun f _ σ => match f with
  | .ret v => K v σ
  | .next => K .none σ
  | _ => False

/-- a def of the module is a callable -/
theorem fn_ok (G : Gr prog w B mg mb) {a : Addr} {o : Obj} {fd : FuncData} {body : List Stmt} {m : Nat} {P : List V → SH → KE → Prop} {ns : List Str}
    (ho : B.get? a = some o) (hdata : o.data = .func fd) (hglo : fd.globals = mainGlobals) (hblt : fd.builtins = builtinsNs) (hclo : fd.closure = []) (hbody : fd.body = .stmts body) (hcd : B.CodeRec fd.code fd.qualname) (hok : defOk fd.scope ns = true)
    (hbind : ∀ {A : Around} {s : Shared} {Q : List (Str × Value) → Shared → Prop} (xs : List Value), xs.length = ns.length → (∀ b o, B.get? b = some o → s.heap.get? b = some o) → Q (ns.zip xs) s → wpAny (model prog w) A (bindArgs fd ⟨xs, []⟩) Q noE s)
    (TO : TabOk prog w B mg T m)
    (hP : ∀ vs σ K, P vs σ K → vs.length = ns.length ∧ exs (ev T m) body ⟨fd.scope, ns.zip vs⟩ σ (retK K)) : FnOk prog w B (.ref a) (m + 1) P where
  cw := fun {A pos args s Q} hp h => callWith_function (o := o) (fd := fd) (wpAny_mono h (fun x s₁ q => ⟨⟨q.2.1 _ _ ho, hdata⟩, by
    obtain ⟨q1, _, q2⟩ := q
    rw [q1]; exact q2⟩) fun _ _ e => e)
  go := fun {A s μ σ vs xs K} hR hv S rs => by
    obtain ⟨hl, hb⟩ := hP vs σ K hv
    obtain ⟨k1, k2, k3, k4, k5, k6, k7⟩ := defOk_is hok
    have hxl : xs.length = ns.length := by rw [rs.length, hl]
    have R := ev_snd G m TO
    have hkey : ((ns.zip xs).map (·.1)) = ns := by rw [List.map_fst_zip (by omega)]
    have cells : ∀ L : Addr, (scCells fd.scope.names = [] ∧ cellsFrom (L + 1) fd.scope.names [] = []) ∨ ∃ y, scCells fd.scope.names = [y] ∧ cellsFrom (L + 1) fd.scope.names [] = [(y.1, L + 1)] := fun L => by
      rcases k4 with e | ⟨y, e⟩
      · exact .inl ⟨e, (cells_from _ _ _).1 e⟩
      · exact .inr ⟨y, e, (cells_from _ _ _).2 y e⟩
    have cmem : ∀ {L : Addr} {x : Str} {c : Addr}, (cellsFrom (L + 1) fd.scope.names []).lookup x = some c → fd.scope.names.lookup x = some .cell ∧ c = L + 1 := fun {L x c} e => by
      rcases cells L with ⟨_, q⟩ | ⟨y, q1, q2⟩
      · rw [q] at e; cases e
      · rw [q2] at e
        have hm := mem_lookup e
        obtain ⟨rfl, rfl⟩ : x = y.1 ∧ c = L + 1 := by simpa using hm
        have hy : y ∈ scCells fd.scope.names := by rw [q1]; exact List.mem_cons_self
        obtain ⟨hy1, hy2⟩ := List.mem_filter.mp hy
        exact ⟨k5 y hy1 (by simpa using hy2), rfl⟩
    have cmem2 : ∀ {L : Addr} {x : Str}, fd.scope.names.lookup x = some .cell → (cellsFrom (L + 1) fd.scope.names []).lookup x = some (L + 1) := fun {L x} e => by
      have hx : (x, NameKind.cell) ∈ scCells fd.scope.names := List.mem_filter.mpr ⟨mem_lookup e, rfl⟩
      rcases cells L with ⟨q, _⟩ | ⟨y, q1, q2⟩
      · rw [q] at hx; cases hx
      · rw [q1] at hx
        obtain rfl := List.mem_singleton.mp hx
        rw [q2]
        simp [List.lookup]
    refine codeAny_call_function (by have := hR.depth; omega) (S.keep _ _ ho) hdata k3 k2 hbody (hcd.keeps S.keep) ?_
    refine hbind xs hxl S.keep ?_
    rw [hclo, hglo, hblt]
    refine wpAny_newFunctionEnv_cells k1 (fun x hx => ?_) (fun env he s₁ x => ⟨(G.nolim.keeps S.keep).keeps x.toInCall.keep, codeAny_func ?_⟩)
    · have hx1 : x.1 ∈ ns := (List.of_mem_zip (show (x.1, x.2) ∈ _ from hx)).1
      rcases k6 x.1 hx1 with q | q
      · exact .inl q
      · exact .inr ⟨q, by rw [cmem2 q]; rfl⟩
    · subst he
      obtain ⟨h₁, tk, rfl, _⟩ := x.done
      have Fr : Fr s.heap s.heap.objs.size h₁ _ := ⟨x.toInCall.ns, x.toInCall.keep, x.toInCall.fresh⟩
      have Cl : Cl s.heap.objs.size (cellsFrom (s.heap.objs.size + 1) fd.scope.names []) h₁ _ := ⟨x.cell, x.apart, x.above⟩
      have X0 : Ext [] μ s.heap μ h₁ := ext_of_keep _ _ Fr.keep
      have S0 := S.kept Fr.keep
      have fresh : ∀ b, s.heap.objs.size ≤ b → s.heap.get? b = none := fun b hb => Heap.get?_none_of_le hb
      have nB : ∀ b, s.heap.objs.size ≤ b → b ∉ fpOf μ ∧ B.get? b = none := fun b hb => ⟨fun hm => absurd (S.lt b hm) (Nat.not_lt.mpr hb), by
        cases q : B.get? b with
        | none => rfl
        | some o => exact absurd (Heap.lt_size (S.keep _ _ q)) (Nat.not_lt.mpr hb)⟩
      have F0 : Fm B (newEnv fd.scope s.heap.objs.size mainGlobals (cellsFrom (s.heap.objs.size + 1) fd.scope.names []) (fd.qualname ++ ".<locals>.") (some a) fd.code none builtinsNs) ⟨fd.scope, ns.zip vs⟩ μ h₁ := by
        refine ⟨k1, rfl, rfl, rfl, ⟨_, Fr.ns, fun x v hx hlx => ?_⟩, fun x hx => ?_, fun x c hc => (cmem hc).1, fun x v hx => ?_, (nB _ (Nat.le_refl _)).1, fun x c hc => ?_, fun x y c hx hy => ?_, (nB _ (Nat.le_refl _)).2, fun x c hc => ?_, fun p hp => ?_⟩
        · obtain ⟨y, h1, h2⟩ := zip_lookup rs hx
          exact ⟨y, bindL_at hlx (by rw [hkey]; exact k7) h1, h2.up X0.up⟩
        · refine ⟨_, _, cmem2 hx, Cl.cell x _ (cmem2 hx), fun v hv => ?_⟩
          obtain ⟨y, h1, h2⟩ := zip_lookup rs hv
          refine ⟨y, bindC_at (fun q => ?_) (by rw [hkey]; exact k7) h1, h2.up X0.up⟩
          have hx : fd.scope.names.lookup x = some .cell := hx
          have q : fd.scope.names.lookup x = some .local := q
          rw [hx] at q; cases q
        · have hx1 := zip_mem (show (ns.zip vs).lookup x = some v from hx)
          unfold isLoc
          rcases k6 x hx1 with q | q
          · show (fd.scope.names.lookup x == some .local || _) = true
            rw [q]; rfl
          · show (_ || fd.scope.names.lookup x == some .cell) = true
            rw [q]; rfl
        · obtain ⟨_, rfl⟩ := cmem hc
          exact ⟨(nB _ (Nat.le_succ _)).1, Nat.succ_ne_self _⟩
        · exact name_of_addr Cl.apart (mem_lookup hx) (mem_lookup hy)
        · obtain ⟨_, rfl⟩ := cmem hc
          exact (nB _ (Nat.le_succ _)).2
        · have hp : p ∈ cellsFrom (s.heap.objs.size + 1) fd.scope.names [] := hp
          show (cellsFrom (s.heap.objs.size + 1) fd.scope.names []).lookup p.1 = some p.2
          rcases cells s.heap.objs.size with ⟨_, q⟩ | ⟨y, q1, q2⟩
          · rw [q] at hp; cases hp
          · rw [q2] at hp ⊢
            obtain rfl := List.mem_singleton.mp hp
            simp [List.lookup]
      have hR' : Room m (A.deeper (newEnv fd.scope s.heap.objs.size mainGlobals (cellsFrom (s.heap.objs.size + 1) fd.scope.names []) (fd.qualname ++ ".<locals>.") (some a) fd.code none builtinsNs)) := ⟨hR.handled, by have := hR.depth; show A.depth + 1 + m < _; omega, by have := hR.units; show A.units + 3 + 8 * m + 100 < _; omega⟩
      refine wpAny_mono (exs_snd (s := { s with heap := h₁, toks := tk }) R hR' hb S0 F0) (fun f s' P => ?_) fun _ _ e => e.elim
      obtain ⟨⟨fl, ρ1⟩, σ1, μ1, hK, S1, X1, ⟨hf, _⟩, Y1⟩ := P
      have X : Ext [] μ s.heap μ1 s'.heap := own_trans X0 X1 fun b hb => by
        rcases List.mem_cons.mp hb with rfl | hb
        · exact fresh _ (Nat.le_refl _)
        · obtain ⟨p, hp, rfl⟩ := List.mem_map.mp hb
          have hp : p ∈ cellsFrom (s.heap.objs.size + 1) fd.scope.names [] := hp
          rcases cells s.heap.objs.size with ⟨_, q⟩ | ⟨y, q1, q2⟩
          · rw [q] at hp; cases hp
          · rw [q2] at hp
            obtain rfl := List.mem_singleton.mp hp
            exact fresh _ (Nat.le_succ _)
      have Y : Rest s s' := ⟨Y1.gens, Y1.drawn, Y1.os⟩
      cases fl with
      | ret v =>
        obtain ⟨x, rfl, rx⟩ := hf
        exact ⟨v, σ1, μ1, hK, S1, X, rx, Y⟩
      | next =>
        obtain rfl : f = .next := hf
        exact ⟨.none, σ1, μ1, hK, S1, X, rv_none, Y⟩
      | brk => exact hK.elim
      | cont => exact hK.elim
end
end Sw

namespace Sw
open PySem PySem.Calls PyProof.Rows PySem.W

section
variable {prog : Program} {w : World} {B : Heap} {mg mb : Str → Option Value} {A : Around} {s : Shared} {μ : Mu} {σ : SH} {n : Nat} {env : Env} {ρ : Loc} {r : Rec} {T : Tab} {fp ws : List Addr} {h : Heap}

theorem new_inst (S : St prog w B μ σ h) {C : Addr} (hC : C = 122 ∨ C = 144) :
    St prog w B (μ ++ [(h.objs.size + 1, some h.objs.size)]) (σ ++ [.inst C []]) ((h.push emptyDict).push (instObj C h.objs.size)) ∧
    Ext [] μ h (μ ++ [(h.objs.size + 1, some h.objs.size)]) ((h.push emptyDict).push (instObj C h.objs.size)) := by
  have k : ∀ b o, h.get? b = some o → ((h.push emptyDict).push (instObj C h.objs.size)).get? b = some o := fun b o e => Heap.get?_push_of_some _ (Heap.get?_push_of_some _ e)
  have g1 : ((h.push emptyDict).push (instObj C h.objs.size)).get? (h.objs.size + 1) = some (instObj C h.objs.size) := by
    have := Heap.get?_push_size (h.push emptyDict) (o := instObj C h.objs.size) rfl
    rwa [Heap.size_push] at this
  have g0 : ((h.push emptyDict).push (instObj C h.objs.size)).get? h.objs.size = some emptyDict := Heap.get?_push_of_some _ (Heap.get?_push_size _ rfl)
  have nB : ∀ b, h.objs.size ≤ b → b ∉ fpOf μ ∧ B.get? b = none := fun b hb => ⟨fun hm => absurd (S.lt b hm) (Nat.not_lt.mpr hb), by
    cases q : B.get? b with
    | none => rfl
    | some o => exact absurd (Heap.lt_size (S.keep _ _ q)) (Nat.not_lt.mpr hb)⟩
  have hne : h.objs.size ≠ h.objs.size + 1 := Nat.ne_of_lt (Nat.lt_succ_self _)
  have ns : ((h.push emptyDict).push (instObj C h.objs.size)).Ns h.objs.size fun _ => none := (Heap.Ns.new h (.type "dict")).push _
  refine ⟨(S.kept k).grow (fun b hb => ?_) ?_ ⟨hC, h.objs.size, fun _ => none, rfl, ⟨⟨_, g1, rfl, fun c q => (nomatch q), rfl⟩, hne, Heap.Ns1.of_empty ns, fun x q => absurd rfl q⟩, fun x v q => (nomatch q)⟩, ⟨⟨_, rfl⟩, fun b o e _ _ => k b o e, fun a xs n e => k _ _ e, fun b hb => ?_, fun b o e => ⟨o, k b o e⟩⟩⟩
  · rcases List.mem_cons.mp hb with rfl | hb
    · exact ⟨(nB _ (Nat.le_succ _)).1, (nB _ (Nat.le_succ _)).2, _, g1⟩
    · obtain rfl : b = h.objs.size := by simpa using hb
      exact ⟨(nB _ (Nat.le_refl _)).1, (nB _ (Nat.le_refl _)).2, _, g0⟩
  · show [h.objs.size + 1, h.objs.size].Nodup
    simp
  · rw [fpOf_append] at hb
    rcases List.mem_append.mp hb with q | q
    · exact .inl q
    · right
      have : b = h.objs.size + 1 ∨ b = h.objs.size := by simpa [fpOf, ow] using q
      rcases this with rfl | rfl
      · exact Heap.get?_none_of_le (Nat.le_succ _)
      · exact Heap.get?_none_of_le (Nat.le_refl _)

theorem cls_ok {K : Frag} (X : K.In B) {C fI : Addr} (hC : C = 122 ∨ C = 144) (hm : makesIn K C = true) (hi : findIn K (.ref C) "__init__" = some (some (.ref fI))) (hf : typeIn K (.ref fI) = some (.type "function"))
    {m : Nat} {PI P : List V → SH → KE → Prop} (I : FnOk prog w B (.ref fI) m PI)
    (hP : ∀ vs σ Q, P vs σ Q → PI (.ref σ.length :: vs) (σ ++ [.inst C []]) (fun v σ' => v = .none ∧ Q (.ref σ.length) σ')) : FnOk prog w B (.ref C) (m + 1) P where
  cw := fun {A pos args s Q} hp h => by
    unfold callWith
    refine wpAny_bind (wpAny_holding (wpAny_mono h (fun as s₁ q => ?_) fun _ _ x => x))
    obtain ⟨q1, q2, q3⟩ := q
    have Y := makes_of (M := model prog w) (X.keeps q2) hm
    obtain ⟨oc, od, cd, sl, hC', e1, e2, e4⟩ := Y.obj
    refine wpAny_bind (wpAny_standAt ?_)
    show wpAny _ _ (keeperOf (.ref C) >>= _) _ _ _
    refine wpAny_bind (m := keeperOf (.ref C)) ?_
    unfold keeperOf
    refine wpAny_bind (wpAny_load hC' ?_)
    dsimp only
    refine wpAny_bind (Y.call _ _ _ _ (fun _ _ e => e) (wpAny_pure ?_))
    rw [if_pos (by rfl), hp, q1]
    show wpAny _ _ (call (.ref C) ([] ++ as.pos) [] >>= fun r => do holding [r] point; pure r) _ _ _
    exact wpAny_bind (wpAny_mono q3 (fun r s' hr => wpAny_bind (wpAny_holding (wpAny_point (wpAny_pure hr)))) fun _ _ x => x)
  go := fun {A s μ σ vs xs Q} hR hv S rs => by
    have X' := X.keeps S.keep
    have Y := makes_of (M := model prog w) X' hm
    obtain ⟨S1, X1⟩ := new_inst S hC
    obtain ⟨hh, g, d, t, os⟩ := s
    refine make_core Y (looks_findIn X' hi) (fun self => bind_fn X' self hf) (.inl rfl) ?_
    have hw : (Code.builtin "type.__call__" ⟨.ref C :: xs, []⟩).weight = 1 := by kernel_rfl
    have hu : (Code.builtin "type.__call__" ⟨.ref C :: xs, []⟩).cUnits = 1 := by kernel_rfl
    have hR' : Room m (A.under (.builtin "type.__call__" ⟨.ref C :: xs, []⟩)) := ⟨hR.handled, by have := hR.depth; show A.depth + Code.weight _ + m < _; rw [hw]; omega, by have := hR.units; show A.units + Code.cUnits _ + 8 * m + 100 < _; rw [hu]; omega⟩
    have r0 : Rv (μ ++ [(hh.objs.size + 1, some hh.objs.size)]) ((hh.push emptyDict).push (instObj C hh.objs.size)) (.ref σ.length) (.ref (hh.objs.size + 1)) := by
      unfold Rv
      exact ⟨(hh.objs.size + 1, some hh.objs.size), by rw [← S.len, List.getElem?_append_right (Nat.le_refl _), Nat.sub_self]; rfl, rfl⟩
    refine codeAny_mono (I.go (s := ⟨(hh.push emptyDict).push (instObj C hh.objs.size), g, d, t, os⟩) hR' (hP vs σ Q hv) S1 (Rvs.cons r0 (rs.up X1.up))) fun r s' q => ?_
    rcases r with e | (v | _ | _ | _)
    · exact q.elim
    · exact q.elim
    · exact q.elim
    · exact q.elim
    · obtain ⟨v', σ', μ', ⟨rfl, hK⟩, S2, X2, rv, Y2⟩ := q
      unfold Rv at rv
      subst rv
      refine ⟨rfl, ⟨.ref σ.length, σ', μ', hK, S2, X1.trans X2, ?_, ⟨Y2.gens, Y2.drawn, Y2.os⟩⟩⟩
      exact r0.up X2.up
end
end Sw

open PySem PySem.W PyProof.Rows
namespace Sw
open PySem PySem.W

noncomputable abbrev pr : Program := PySem.Challenge.pw_pq1086_01
/-- what the text's own statements see -/
noncomputable def envT : Env := { scope := pr.main.scope, locals := mainNs, globals := mainNs, cells := [], code := .ref 13, frame := some 14 }
noncomputable def bT : List Stmt := behindTheImports pr
noncomputable def cT : Code := .body bT envT
noncomputable def p0 : Pos := ⟨0, 0, 0, 0⟩
noncomputable def stA (i : Nat) : Stmt := (pr.main.body[i]?).getD (.Pass p0)
noncomputable def stP (s : Stmt) : Arguments := match s with
  | .FunctionDef _ a .. => a
  | _ => ⟨[], [], none, [], [], none, []⟩
noncomputable def stB (s : Stmt) : List Stmt := match s with
  | .FunctionDef _ _ b .. => b
  | .ClassDef _ _ _ b .. => b
  | _ => []
noncomputable def stS (s : Stmt) : Scope := match s with
  | .FunctionDef _ _ _ _ _ _ sc .. => sc
  | _ => pr.main.scope
noncomputable def stM (i j : Nat) : Stmt := ((stB (stA i))[j]?).getD (.Pass p0)
noncomputable def o_3 (P : Params) : Obj := { cls := .type "dict", data := .dict #[{ hash := PyData.keyHash P (PySem.Str.ofString "__name__"), key := .str (PySem.Str.ofString "__name__") 165, val := .str (PySem.Str.ofString "law_pq1086_01") 659 }, { hash := PyData.keyHash P (PySem.Str.ofString "__doc__"), key := .str (PySem.Str.ofString "__doc__") 166, val := .none }, { hash := PyData.keyHash P (PySem.Str.ofString "__package__"), key := .str (PySem.Str.ofString "__package__") 167, val := .none }, { hash := PyData.keyHash P (PySem.Str.ofString "__loader__"), key := .str (PySem.Str.ofString "__loader__") 168, val := .builtin "__main__.__loader__#opaque" }, { hash := PyData.keyHash P (PySem.Str.ofString "__spec__"), key := .str (PySem.Str.ofString "__spec__") 169, val := .none }, { hash := PyData.keyHash P (PySem.Str.ofString "__annotations__"), key := .str (PySem.Str.ofString "__annotations__") 170, val := .ref 6 }, { hash := PyData.keyHash P (PySem.Str.ofString "__builtins__"), key := .str (PySem.Str.ofString "__builtins__") 171, val := .ref 4 }, { hash := PyData.keyHash P (PySem.Str.ofString "__file__"), key := .str (PySem.Str.ofString "__file__") 173, val := .str (PySem.Str.ofString "/claim/cut.py") 172 }, { hash := PyData.keyHash P (PySem.Str.ofString "__cached__"), key := .str (PySem.Str.ofString "__cached__") 174, val := .none }, { hash := PyData.keyHash P (PySem.Str.ofString "WallFault"), key := .str (PySem.Str.ofString "WallFault") 218, val := .ref 31 }, { hash := PyData.keyHash P (PySem.Str.ofString "Misused"), key := .str (PySem.Str.ofString "Misused") 234, val := .ref 44 }, { hash := PyData.keyHash P (PySem.Str.ofString "number_of"), key := .str (PySem.Str.ofString "number_of") 245, val := .ref 53 }, { hash := PyData.keyHash P (PySem.Str.ofString "octets_of"), key := .str (PySem.Str.ofString "octets_of") 251, val := .ref 58 }, { hash := PyData.keyHash P (PySem.Str.ofString "turned"), key := .str (PySem.Str.ofString "turned") 257, val := .ref 63 }, { hash := PyData.keyHash P (PySem.Str.ofString "rolled"), key := .str (PySem.Str.ofString "rolled") 265, val := .ref 70 }, { hash := PyData.keyHash P (PySem.Str.ofString "mixed"), key := .str (PySem.Str.ofString "mixed") 274, val := .ref 77 }, { hash := PyData.keyHash P (PySem.Str.ofString "ended"), key := .str (PySem.Str.ofString "ended") 283, val := .ref 84 }, { hash := PyData.keyHash P (PySem.Str.ofString "little_word"), key := .str (PySem.Str.ofString "little_word") 291, val := .ref 91 }, { hash := PyData.keyHash P (PySem.Str.ofString "jhash"), key := .str (PySem.Str.ofString "jhash") 303, val := .ref 98 }, { hash := PyData.keyHash P (PySem.Str.ofString "scaled"), key := .str (PySem.Str.ofString "scaled") 311, val := .ref 105 }, { hash := PyData.keyHash P (PySem.Str.ofString "DYING"), key := .str (PySem.Str.ofString "DYING") 315, val := .int 512 314 }, { hash := PyData.keyHash P (PySem.Str.ofString "Talk"), key := .str (PySem.Str.ofString "Talk") 357, val := .ref 122 }, { hash := PyData.keyHash P (PySem.Str.ofString "TalkBook"), key := .str (PySem.Str.ofString "TalkBook") 400, val := .ref 144 }, { hash := PyData.keyHash P (PySem.Str.ofString "is_icmp"), key := .str (PySem.Str.ofString "is_icmp") 408, val := .ref 155 }, { hash := PyData.keyHash P (PySem.Str.ofString "answer_kind"), key := .str (PySem.Str.ofString "answer_kind") 419, val := .ref 162 }, { hash := PyData.keyHash P (PySem.Str.ofString "invert"), key := .str (PySem.Str.ofString "invert") 433, val := .ref 169 }, { hash := PyData.keyHash P (PySem.Str.ofString "side_of"), key := .str (PySem.Str.ofString "side_of") 441, val := .ref 176 }, { hash := PyData.keyHash P (PySem.Str.ofString "drop_talk"), key := .str (PySem.Str.ofString "drop_talk") 447, val := .ref 181 }, { hash := PyData.keyHash P (PySem.Str.ofString "look_up"), key := .str (PySem.Str.ofString "look_up") 459, val := .ref 188 }, { hash := PyData.keyHash P (PySem.Str.ofString "address_of"), key := .str (PySem.Str.ofString "address_of") 469, val := .ref 195 }, { hash := PyData.keyHash P (PySem.Str.ofString "port_of"), key := .str (PySem.Str.ofString "port_of") 477, val := .ref 202 }, { hash := PyData.keyHash P (PySem.Str.ofString "with_address"), key := .str (PySem.Str.ofString "with_address") 486, val := .ref 209 }, { hash := PyData.keyHash P (PySem.Str.ofString "with_port"), key := .str (PySem.Str.ofString "with_port") 495, val := .ref 216 }, { hash := PyData.keyHash P (PySem.Str.ofString "has_port"), key := .str (PySem.Str.ofString "has_port") 502, val := .ref 223 }, { hash := PyData.keyHash P (PySem.Str.ofString "done_bit"), key := .str (PySem.Str.ofString "done_bit") 509, val := .ref 230 }, { hash := PyData.keyHash P (PySem.Str.ofString "span_of_request"), key := .str (PySem.Str.ofString "span_of_request") 516, val := .ref 237 }, { hash := PyData.keyHash P (PySem.Str.ofString "port_fits"), key := .str (PySem.Str.ofString "port_fits") 525, val := .ref 244 }, { hash := PyData.keyHash P (PySem.Str.ofString "in_range"), key := .str (PySem.Str.ofString "in_range") 535, val := .ref 251 }, { hash := PyData.keyHash P (PySem.Str.ofString "port_span"), key := .str (PySem.Str.ofString "port_span") 546, val := .ref 258 }, { hash := PyData.keyHash P (PySem.Str.ofString "is_used"), key := .str (PySem.Str.ofString "is_used") 558, val := .ref 265 }, { hash := PyData.keyHash P (PySem.Str.ofString "pick_address"), key := .str (PySem.Str.ofString "pick_address") 573, val := .ref 272 }, { hash := PyData.keyHash P (PySem.Str.ofString "keeps_port"), key := .str (PySem.Str.ofString "keeps_port") 586, val := .ref 279 }, { hash := PyData.keyHash P (PySem.Str.ofString "first_place"), key := .str (PySem.Str.ofString "first_place") 602, val := .ref 286 }, { hash := PyData.keyHash P (PySem.Str.ofString "free_port"), key := .str (PySem.Str.ofString "free_port") 621, val := .ref 293 }, { hash := PyData.keyHash P (PySem.Str.ofString "pick"), key := .str (PySem.Str.ofString "pick") 635, val := .ref 300 }, { hash := PyData.keyHash P (PySem.Str.ofString "setup"), key := .str (PySem.Str.ofString "setup") 648, val := .ref 307 }, { hash := PyData.keyHash P (PySem.Str.ofString "null_bind"), key := .str (PySem.Str.ofString "null_bind") 658, val := .ref 314 }, { hash := PyData.keyHash P (PySem.Str.ofString "_law_draw"), key := .str (PySem.Str.ofString "_law_draw") 670, val := .ref 321 }, { hash := PyData.keyHash P (PySem.Str.ofString "_law_rows"), key := .str (PySem.Str.ofString "_law_rows") 676, val := .ref 328 }, { hash := PyData.keyHash P (PySem.Str.ofString "_law_is_ping"), key := .str (PySem.Str.ofString "_law_is_ping") 683, val := .ref 335 }, { hash := PyData.keyHash P (PySem.Str.ofString "_law_answer"), key := .str (PySem.Str.ofString "_law_answer") 691, val := .ref 342 }, { hash := PyData.keyHash P (PySem.Str.ofString "_law_with"), key := .str (PySem.Str.ofString "_law_with") 700, val := .ref 349 }, { hash := PyData.keyHash P (PySem.Str.ofString "_law_places"), key := .str (PySem.Str.ofString "_law_places") 709, val := .ref 356 }, { hash := PyData.keyHash P (PySem.Str.ofString "_law_tuple"), key := .str (PySem.Str.ofString "_law_tuple") 721, val := .ref 363 }, { hash := PyData.keyHash P (PySem.Str.ofString "_law_request"), key := .str (PySem.Str.ofString "_law_request") 741, val := .ref 370 }, { hash := PyData.keyHash P (PySem.Str.ofString "_law_round"), key := .str (PySem.Str.ofString "_law_round") 757, val := .ref 377 }, { hash := PyData.keyHash P (PySem.Str.ofString "_law_waiting"), key := .str (PySem.Str.ofString "_law_waiting") 763, val := .ref 382 }, { hash := PyData.keyHash P (PySem.Str.ofString "_law_fill"), key := .str (PySem.Str.ofString "_law_fill") 779, val := .ref 389 }, { hash := PyData.keyHash P (PySem.Str.ofString "_law_chosen"), key := .str (PySem.Str.ofString "_law_chosen") 790, val := .ref 396 }, { hash := PyData.keyHash P (PySem.Str.ofString "_law_holds"), key := .str (PySem.Str.ofString "_law_holds") 796, val := .ref 401 }, { hash := PyData.keyHash P (PySem.Str.ofString "law"), key := .str (PySem.Str.ofString "law") 805, val := .ref 408 }] 61 }
noncomputable def o_118 : Obj := { cls := .type "code", data := .fields #[.str (PySem.Str.ofString "__init__") 328, .str (PySem.Str.ofString "Talk.__init__") 329, .str (PySem.Str.ofString "/claim/cut.py") 330, .int 72 0, .int 5 0, .int 0 0, .int 0 0, .int 3 0, .ref 113, .bool true, .int 181 0, .ref 114, .none, .ref 115, .ref 116, .ref 117, .int 336 0, .int 72 0, .str (PySem.Str.ofString "/claim/cut.py") 337] }
noncomputable def F_119 : FuncData := { name := PySem.Str.ofString "__init__", qualname := PySem.Str.ofString "Talk.__init__", params := (stP (stM 15 0)), body := (.stmts (stB (stM 15 0))), scope := (stS (stM 15 0)), globals := 3, closure := [], defaults := .none, kwdefaults := .none, pyModule := .str (PySem.Str.ofString "siftwall.tuples") 312, code := .ref 118 }
noncomputable def o_121 (P : Params) : Obj := { cls := .type "dict", data := .dict #[{ hash := PyData.keyHash P (PySem.Str.ofString "__module__"), key := .str (PySem.Str.ofString "__module__") 323, val := .str (PySem.Str.ofString "siftwall.tuples") 312 }, { hash := PyData.keyHash P (PySem.Str.ofString "__firstlineno__"), key := .str (PySem.Str.ofString "__firstlineno__") 327, val := .int 70 326 }, { hash := PyData.keyHash P (PySem.Str.ofString "__init__"), key := .str (PySem.Str.ofString "__init__") 338, val := .ref 119 }, { hash := PyData.keyHash P (PySem.Str.ofString "__static_attributes__"), key := .str (PySem.Str.ofString "__static_attributes__") 350, val := .ref 120 }, { hash := PyData.keyHash P (PySem.Str.ofString "__dict__"), key := .str (PySem.Str.ofString "__dict__") 352, val := .ref 123 }, { hash := PyData.keyHash P (PySem.Str.ofString "__weakref__"), key := .str (PySem.Str.ofString "__weakref__") 354, val := .ref 124 }, { hash := PyData.keyHash P (PySem.Str.ofString "__doc__"), key := .str (PySem.Str.ofString "__doc__") 355, val := .none }] 4 }
noncomputable def o_122 : Obj := { cls := .type "type", data := .cls { name := PySem.Str.ofString "Talk", bases := [.type "object"], mro := [.ref 122, .type "object"], ns := 121, qualname := PySem.Str.ofString "Talk" }, slots := #[none, none, some (.str (PySem.Str.ofString "Talk") 316), some (.str (PySem.Str.ofString "Talk") 324), some (.builtin "object.__new__"), some (.bool true)] }
noncomputable def o_134 : Obj := { cls := .type "tuple", data := .seq #[.int 64 370, .int 0 371, .int 128 372] }
noncomputable def o_140 : Obj := { cls := .type "code", data := .fields #[.str (PySem.Str.ofString "__init__") 373, .str (PySem.Str.ofString "TalkBook.__init__") 374, .str (PySem.Str.ofString "/claim/cut.py") 375, .int 86 0, .int 4 0, .int 0 0, .int 0 0, .int 3 0, .ref 135, .bool true, .int 181 0, .ref 136, .none, .ref 137, .ref 138, .ref 139, .int 380 0, .int 86 0, .str (PySem.Str.ofString "/claim/cut.py") 381] }
noncomputable def F_141 : FuncData := { name := PySem.Str.ofString "__init__", qualname := PySem.Str.ofString "TalkBook.__init__", params := (stP (stM 16 0)), body := (.stmts (stB (stM 16 0))), scope := (stS (stM 16 0)), globals := 3, closure := [], defaults := .ref 134, kwdefaults := .none, pyModule := .str (PySem.Str.ofString "siftwall.tuples") 312, code := .ref 140 }
noncomputable def o_143 (P : Params) : Obj := { cls := .type "dict", data := .dict #[{ hash := PyData.keyHash P (PySem.Str.ofString "__module__"), key := .str (PySem.Str.ofString "__module__") 365, val := .str (PySem.Str.ofString "siftwall.tuples") 312 }, { hash := PyData.keyHash P (PySem.Str.ofString "__firstlineno__"), key := .str (PySem.Str.ofString "__firstlineno__") 369, val := .int 84 368 }, { hash := PyData.keyHash P (PySem.Str.ofString "__init__"), key := .str (PySem.Str.ofString "__init__") 382, val := .ref 141 }, { hash := PyData.keyHash P (PySem.Str.ofString "__static_attributes__"), key := .str (PySem.Str.ofString "__static_attributes__") 393, val := .ref 142 }, { hash := PyData.keyHash P (PySem.Str.ofString "__dict__"), key := .str (PySem.Str.ofString "__dict__") 395, val := .ref 145 }, { hash := PyData.keyHash P (PySem.Str.ofString "__weakref__"), key := .str (PySem.Str.ofString "__weakref__") 397, val := .ref 146 }, { hash := PyData.keyHash P (PySem.Str.ofString "__doc__"), key := .str (PySem.Str.ofString "__doc__") 398, val := .none }] 4 }
noncomputable def o_144 : Obj := { cls := .type "type", data := .cls { name := PySem.Str.ofString "TalkBook", bases := [.type "object"], mro := [.ref 144, .type "object"], ns := 143, qualname := PySem.Str.ofString "TalkBook" }, slots := #[none, none, some (.str (PySem.Str.ofString "TalkBook") 358), some (.str (PySem.Str.ofString "TalkBook") 366), some (.builtin "object.__new__"), some (.bool true)] }
noncomputable def o_154 : Obj := { cls := .type "code", data := .fields #[.str (PySem.Str.ofString "is_icmp") 401, .str (PySem.Str.ofString "is_icmp") 402, .str (PySem.Str.ofString "/claim/cut.py") 403, .int 97 0, .int 2 0, .int 0 0, .int 0 0, .int 3 0, .ref 149, .bool true, .int 181 0, .ref 150, .none, .ref 151, .ref 152, .ref 153, .int 406 0, .int 97 0, .str (PySem.Str.ofString "/claim/cut.py") 407] }
noncomputable def F_155 : FuncData := { name := PySem.Str.ofString "is_icmp", qualname := PySem.Str.ofString "is_icmp", params := (stP (stA 17)), body := (.stmts (stB (stA 17))), scope := (stS (stA 17)), globals := 3, closure := [], defaults := .none, kwdefaults := .none, pyModule := .str (PySem.Str.ofString "siftwall.tuples") 312, code := .ref 154 }
noncomputable def o_161 : Obj := { cls := .type "code", data := .fields #[.str (PySem.Str.ofString "answer_kind") 409, .str (PySem.Str.ofString "answer_kind") 410, .str (PySem.Str.ofString "/claim/cut.py") 411, .int 99 0, .int 2 0, .int 0 0, .int 0 0, .int 3 0, .ref 156, .bool true, .int 181 0, .ref 157, .none, .ref 158, .ref 159, .ref 160, .int 417 0, .int 99 0, .str (PySem.Str.ofString "/claim/cut.py") 418] }
noncomputable def F_162 : FuncData := { name := PySem.Str.ofString "answer_kind", qualname := PySem.Str.ofString "answer_kind", params := (stP (stA 18)), body := (.stmts (stB (stA 18))), scope := (stS (stA 18)), globals := 3, closure := [], defaults := .none, kwdefaults := .none, pyModule := .str (PySem.Str.ofString "siftwall.tuples") 312, code := .ref 161 }
noncomputable def o_168 : Obj := { cls := .type "code", data := .fields #[.str (PySem.Str.ofString "invert") 420, .str (PySem.Str.ofString "invert") 421, .str (PySem.Str.ofString "/claim/cut.py") 422, .int 107 0, .int 1 0, .int 0 0, .int 0 0, .int 3 0, .ref 163, .bool true, .int 181 0, .ref 164, .none, .ref 165, .ref 166, .ref 167, .int 431 0, .int 107 0, .str (PySem.Str.ofString "/claim/cut.py") 432] }
noncomputable def F_169 : FuncData := { name := PySem.Str.ofString "invert", qualname := PySem.Str.ofString "invert", params := (stP (stA 19)), body := (.stmts (stB (stA 19))), scope := (stS (stA 19)), globals := 3, closure := [], defaults := .none, kwdefaults := .none, pyModule := .str (PySem.Str.ofString "siftwall.tuples") 312, code := .ref 168 }
noncomputable def o_175 : Obj := { cls := .type "code", data := .fields #[.str (PySem.Str.ofString "side_of") 434, .str (PySem.Str.ofString "side_of") 435, .str (PySem.Str.ofString "/claim/cut.py") 436, .int 115 0, .int 2 0, .int 0 0, .int 0 0, .int 3 0, .ref 170, .bool true, .int 181 0, .ref 171, .none, .ref 172, .ref 173, .ref 174, .int 439 0, .int 115 0, .str (PySem.Str.ofString "/claim/cut.py") 440] }
noncomputable def F_176 : FuncData := { name := PySem.Str.ofString "side_of", qualname := PySem.Str.ofString "side_of", params := (stP (stA 20)), body := (.stmts (stB (stA 20))), scope := (stS (stA 20)), globals := 3, closure := [], defaults := .none, kwdefaults := .none, pyModule := .str (PySem.Str.ofString "siftwall.tuples") 312, code := .ref 175 }
noncomputable def o_180 : Obj := { cls := .type "code", data := .fields #[.str (PySem.Str.ofString "drop_talk") 442, .str (PySem.Str.ofString "drop_talk") 443, .str (PySem.Str.ofString "/claim/cut.py") 444, .int 117 0, .int 2 0, .int 0 0, .int 0 0, .int 3 0, .ref 177, .bool true, .int 181 0, .ref 178, .none, .none, .none, .ref 179, .int 445 0, .int 117 0, .str (PySem.Str.ofString "/claim/cut.py") 446] }
noncomputable def F_181 : FuncData := { name := PySem.Str.ofString "drop_talk", qualname := PySem.Str.ofString "drop_talk", params := (stP (stA 21)), body := (.stmts (stB (stA 21))), scope := (stS (stA 21)), globals := 3, closure := [], defaults := .none, kwdefaults := .none, pyModule := .str (PySem.Str.ofString "siftwall.tuples") 312, code := .ref 180 }
noncomputable def o_187 : Obj := { cls := .type "code", data := .fields #[.str (PySem.Str.ofString "look_up") 448, .str (PySem.Str.ofString "look_up") 449, .str (PySem.Str.ofString "/claim/cut.py") 450, .int 129 0, .int 4 0, .int 0 0, .int 0 0, .int 3 0, .ref 182, .bool true, .int 181 0, .ref 183, .none, .ref 184, .ref 185, .ref 186, .int 457 0, .int 129 0, .str (PySem.Str.ofString "/claim/cut.py") 458] }
noncomputable def F_188 : FuncData := { name := PySem.Str.ofString "look_up", qualname := PySem.Str.ofString "look_up", params := (stP (stA 22)), body := (.stmts (stB (stA 22))), scope := (stS (stA 22)), globals := 3, closure := [], defaults := .none, kwdefaults := .none, pyModule := .str (PySem.Str.ofString "siftwall.tuples") 312, code := .ref 187 }
noncomputable def o_194 : Obj := { cls := .type "code", data := .fields #[.str (PySem.Str.ofString "address_of") 462, .str (PySem.Str.ofString "address_of") 463, .str (PySem.Str.ofString "/claim/cut.py") 464, .int 139 0, .int 2 0, .int 0 0, .int 0 0, .int 3 0, .ref 189, .bool true, .int 181 0, .ref 190, .none, .ref 191, .ref 192, .ref 193, .int 467 0, .int 139 0, .str (PySem.Str.ofString "/claim/cut.py") 468] }
noncomputable def F_195 : FuncData := { name := PySem.Str.ofString "address_of", qualname := PySem.Str.ofString "address_of", params := (stP (stA 24)), body := (.stmts (stB (stA 24))), scope := (stS (stA 24)), globals := 3, closure := [], defaults := .none, kwdefaults := .none, pyModule := .str (PySem.Str.ofString "siftwall.nat") 460, code := .ref 194 }
noncomputable def o_201 : Obj := { cls := .type "code", data := .fields #[.str (PySem.Str.ofString "port_of") 470, .str (PySem.Str.ofString "port_of") 471, .str (PySem.Str.ofString "/claim/cut.py") 472, .int 141 0, .int 2 0, .int 0 0, .int 0 0, .int 3 0, .ref 196, .bool true, .int 181 0, .ref 197, .none, .ref 198, .ref 199, .ref 200, .int 475 0, .int 141 0, .str (PySem.Str.ofString "/claim/cut.py") 476] }
noncomputable def F_202 : FuncData := { name := PySem.Str.ofString "port_of", qualname := PySem.Str.ofString "port_of", params := (stP (stA 25)), body := (.stmts (stB (stA 25))), scope := (stS (stA 25)), globals := 3, closure := [], defaults := .none, kwdefaults := .none, pyModule := .str (PySem.Str.ofString "siftwall.nat") 460, code := .ref 201 }
noncomputable def o_208 : Obj := { cls := .type "code", data := .fields #[.str (PySem.Str.ofString "with_address") 478, .str (PySem.Str.ofString "with_address") 479, .str (PySem.Str.ofString "/claim/cut.py") 480, .int 143 0, .int 3 0, .int 0 0, .int 0 0, .int 3 0, .ref 203, .bool true, .int 181 0, .ref 204, .none, .ref 205, .ref 206, .ref 207, .int 484 0, .int 143 0, .str (PySem.Str.ofString "/claim/cut.py") 485] }
noncomputable def F_209 : FuncData := { name := PySem.Str.ofString "with_address", qualname := PySem.Str.ofString "with_address", params := (stP (stA 26)), body := (.stmts (stB (stA 26))), scope := (stS (stA 26)), globals := 3, closure := [], defaults := .none, kwdefaults := .none, pyModule := .str (PySem.Str.ofString "siftwall.nat") 460, code := .ref 208 }
noncomputable def o_215 : Obj := { cls := .type "code", data := .fields #[.str (PySem.Str.ofString "with_port") 487, .str (PySem.Str.ofString "with_port") 488, .str (PySem.Str.ofString "/claim/cut.py") 489, .int 147 0, .int 3 0, .int 0 0, .int 0 0, .int 3 0, .ref 210, .bool true, .int 181 0, .ref 211, .none, .ref 212, .ref 213, .ref 214, .int 493 0, .int 147 0, .str (PySem.Str.ofString "/claim/cut.py") 494] }
noncomputable def F_216 : FuncData := { name := PySem.Str.ofString "with_port", qualname := PySem.Str.ofString "with_port", params := (stP (stA 27)), body := (.stmts (stB (stA 27))), scope := (stS (stA 27)), globals := 3, closure := [], defaults := .none, kwdefaults := .none, pyModule := .str (PySem.Str.ofString "siftwall.nat") 460, code := .ref 215 }
noncomputable def o_222 : Obj := { cls := .type "code", data := .fields #[.str (PySem.Str.ofString "has_port") 496, .str (PySem.Str.ofString "has_port") 497, .str (PySem.Str.ofString "/claim/cut.py") 498, .int 151 0, .int 1 0, .int 0 0, .int 0 0, .int 3 0, .ref 217, .bool true, .int 181 0, .ref 218, .none, .ref 219, .ref 220, .ref 221, .int 500 0, .int 151 0, .str (PySem.Str.ofString "/claim/cut.py") 501] }
noncomputable def F_223 : FuncData := { name := PySem.Str.ofString "has_port", qualname := PySem.Str.ofString "has_port", params := (stP (stA 28)), body := (.stmts (stB (stA 28))), scope := (stS (stA 28)), globals := 3, closure := [], defaults := .none, kwdefaults := .none, pyModule := .str (PySem.Str.ofString "siftwall.nat") 460, code := .ref 222 }
noncomputable def o_229 : Obj := { cls := .type "code", data := .fields #[.str (PySem.Str.ofString "done_bit") 503, .str (PySem.Str.ofString "done_bit") 504, .str (PySem.Str.ofString "/claim/cut.py") 505, .int 153 0, .int 1 0, .int 0 0, .int 0 0, .int 3 0, .ref 224, .bool true, .int 181 0, .ref 225, .none, .ref 226, .ref 227, .ref 228, .int 507 0, .int 153 0, .str (PySem.Str.ofString "/claim/cut.py") 508] }
noncomputable def F_230 : FuncData := { name := PySem.Str.ofString "done_bit", qualname := PySem.Str.ofString "done_bit", params := (stP (stA 29)), body := (.stmts (stB (stA 29))), scope := (stS (stA 29)), globals := 3, closure := [], defaults := .none, kwdefaults := .none, pyModule := .str (PySem.Str.ofString "siftwall.nat") 460, code := .ref 229 }
noncomputable def o_236 : Obj := { cls := .type "code", data := .fields #[.str (PySem.Str.ofString "span_of_request") 510, .str (PySem.Str.ofString "span_of_request") 511, .str (PySem.Str.ofString "/claim/cut.py") 512, .int 155 0, .int 1 0, .int 0 0, .int 0 0, .int 3 0, .ref 231, .bool true, .int 181 0, .ref 232, .none, .ref 233, .ref 234, .ref 235, .int 514 0, .int 155 0, .str (PySem.Str.ofString "/claim/cut.py") 515] }
noncomputable def F_237 : FuncData := { name := PySem.Str.ofString "span_of_request", qualname := PySem.Str.ofString "span_of_request", params := (stP (stA 30)), body := (.stmts (stB (stA 30))), scope := (stS (stA 30)), globals := 3, closure := [], defaults := .none, kwdefaults := .none, pyModule := .str (PySem.Str.ofString "siftwall.nat") 460, code := .ref 236 }
noncomputable def o_243 : Obj := { cls := .type "code", data := .fields #[.str (PySem.Str.ofString "port_fits") 517, .str (PySem.Str.ofString "port_fits") 518, .str (PySem.Str.ofString "/claim/cut.py") 519, .int 157 0, .int 3 0, .int 0 0, .int 0 0, .int 3 0, .ref 238, .bool true, .int 181 0, .ref 239, .none, .ref 240, .ref 241, .ref 242, .int 523 0, .int 157 0, .str (PySem.Str.ofString "/claim/cut.py") 524] }
noncomputable def F_244 : FuncData := { name := PySem.Str.ofString "port_fits", qualname := PySem.Str.ofString "port_fits", params := (stP (stA 31)), body := (.stmts (stB (stA 31))), scope := (stS (stA 31)), globals := 3, closure := [], defaults := .none, kwdefaults := .none, pyModule := .str (PySem.Str.ofString "siftwall.nat") 460, code := .ref 243 }
noncomputable def o_250 : Obj := { cls := .type "code", data := .fields #[.str (PySem.Str.ofString "in_range") 526, .str (PySem.Str.ofString "in_range") 527, .str (PySem.Str.ofString "/claim/cut.py") 528, .int 161 0, .int 3 0, .int 0 0, .int 0 0, .int 3 0, .ref 245, .bool true, .int 181 0, .ref 246, .none, .ref 247, .ref 248, .ref 249, .int 533 0, .int 161 0, .str (PySem.Str.ofString "/claim/cut.py") 534] }
noncomputable def F_251 : FuncData := { name := PySem.Str.ofString "in_range", qualname := PySem.Str.ofString "in_range", params := (stP (stA 32)), body := (.stmts (stB (stA 32))), scope := (stS (stA 32)), globals := 3, closure := [], defaults := .none, kwdefaults := .none, pyModule := .str (PySem.Str.ofString "siftwall.nat") 460, code := .ref 250 }
noncomputable def o_257 : Obj := { cls := .type "code", data := .fields #[.str (PySem.Str.ofString "port_span") 536, .str (PySem.Str.ofString "port_span") 537, .str (PySem.Str.ofString "/claim/cut.py") 538, .int 166 0, .int 3 0, .int 0 0, .int 0 0, .int 3 0, .ref 252, .bool true, .int 181 0, .ref 253, .none, .ref 254, .ref 255, .ref 256, .int 544 0, .int 166 0, .str (PySem.Str.ofString "/claim/cut.py") 545] }
noncomputable def F_258 : FuncData := { name := PySem.Str.ofString "port_span", qualname := PySem.Str.ofString "port_span", params := (stP (stA 33)), body := (.stmts (stB (stA 33))), scope := (stS (stA 33)), globals := 3, closure := [], defaults := .none, kwdefaults := .none, pyModule := .str (PySem.Str.ofString "siftwall.nat") 460, code := .ref 257 }
noncomputable def o_264 : Obj := { cls := .type "code", data := .fields #[.str (PySem.Str.ofString "is_used") 547, .str (PySem.Str.ofString "is_used") 548, .str (PySem.Str.ofString "/claim/cut.py") 549, .int 179 0, .int 4 0, .int 0 0, .int 0 0, .int 3 0, .ref 259, .bool true, .int 181 0, .ref 260, .none, .ref 261, .ref 262, .ref 263, .int 556 0, .int 179 0, .str (PySem.Str.ofString "/claim/cut.py") 557] }
noncomputable def F_265 : FuncData := { name := PySem.Str.ofString "is_used", qualname := PySem.Str.ofString "is_used", params := (stP (stA 34)), body := (.stmts (stB (stA 34))), scope := (stS (stA 34)), globals := 3, closure := [], defaults := .none, kwdefaults := .none, pyModule := .str (PySem.Str.ofString "siftwall.nat") 460, code := .ref 264 }
noncomputable def o_271 : Obj := { cls := .type "code", data := .fields #[.str (PySem.Str.ofString "pick_address") 559, .str (PySem.Str.ofString "pick_address") 560, .str (PySem.Str.ofString "/claim/cut.py") 561, .int 185 0, .int 4 0, .int 0 0, .int 0 0, .int 3 0, .ref 266, .bool true, .int 181 0, .ref 267, .none, .ref 268, .ref 269, .ref 270, .int 571 0, .int 185 0, .str (PySem.Str.ofString "/claim/cut.py") 572] }
noncomputable def F_272 : FuncData := { name := PySem.Str.ofString "pick_address", qualname := PySem.Str.ofString "pick_address", params := (stP (stA 35)), body := (.stmts (stB (stA 35))), scope := (stS (stA 35)), globals := 3, closure := [], defaults := .none, kwdefaults := .none, pyModule := .str (PySem.Str.ofString "siftwall.nat") 460, code := .ref 271 }
noncomputable def o_278 : Obj := { cls := .type "code", data := .fields #[.str (PySem.Str.ofString "keeps_port") 574, .str (PySem.Str.ofString "keeps_port") 575, .str (PySem.Str.ofString "/claim/cut.py") 576, .int 199 0, .int 6 0, .int 0 0, .int 0 0, .int 3 0, .ref 273, .bool true, .int 181 0, .ref 274, .none, .ref 275, .ref 276, .ref 277, .int 584 0, .int 199 0, .str (PySem.Str.ofString "/claim/cut.py") 585] }
noncomputable def F_279 : FuncData := { name := PySem.Str.ofString "keeps_port", qualname := PySem.Str.ofString "keeps_port", params := (stP (stA 36)), body := (.stmts (stB (stA 36))), scope := (stS (stA 36)), globals := 3, closure := [], defaults := .none, kwdefaults := .none, pyModule := .str (PySem.Str.ofString "siftwall.nat") 460, code := .ref 278 }
noncomputable def o_285 : Obj := { cls := .type "code", data := .fields #[.str (PySem.Str.ofString "first_place") 587, .str (PySem.Str.ofString "first_place") 588, .str (PySem.Str.ofString "/claim/cut.py") 589, .int 207 0, .int 5 0, .int 0 0, .int 0 0, .int 3 0, .ref 280, .bool true, .int 181 0, .ref 281, .none, .ref 282, .ref 283, .ref 284, .int 600 0, .int 207 0, .str (PySem.Str.ofString "/claim/cut.py") 601] }
noncomputable def F_286 : FuncData := { name := PySem.Str.ofString "first_place", qualname := PySem.Str.ofString "first_place", params := (stP (stA 37)), body := (.stmts (stB (stA 37))), scope := (stS (stA 37)), globals := 3, closure := [], defaults := .none, kwdefaults := .none, pyModule := .str (PySem.Str.ofString "siftwall.nat") 460, code := .ref 285 }
noncomputable def o_292 : Obj := { cls := .type "code", data := .fields #[.str (PySem.Str.ofString "free_port") 603, .str (PySem.Str.ofString "free_port") 604, .str (PySem.Str.ofString "/claim/cut.py") 605, .int 215 0, .int 7 0, .int 0 0, .int 0 0, .int 3 0, .ref 287, .bool true, .int 181 0, .ref 288, .none, .ref 289, .ref 290, .ref 291, .int 619 0, .int 215 0, .str (PySem.Str.ofString "/claim/cut.py") 620] }
noncomputable def F_293 : FuncData := { name := PySem.Str.ofString "free_port", qualname := PySem.Str.ofString "free_port", params := (stP (stA 38)), body := (.stmts (stB (stA 38))), scope := (stS (stA 38)), globals := 3, closure := [], defaults := .none, kwdefaults := .none, pyModule := .str (PySem.Str.ofString "siftwall.nat") 460, code := .ref 292 }
noncomputable def o_299 : Obj := { cls := .type "code", data := .fields #[.str (PySem.Str.ofString "pick") 622, .str (PySem.Str.ofString "pick") 623, .str (PySem.Str.ofString "/claim/cut.py") 624, .int 225 0, .int 6 0, .int 0 0, .int 0 0, .int 3 0, .ref 294, .bool true, .int 181 0, .ref 295, .none, .ref 296, .ref 297, .ref 298, .int 633 0, .int 225 0, .str (PySem.Str.ofString "/claim/cut.py") 634] }
noncomputable def F_300 : FuncData := { name := PySem.Str.ofString "pick", qualname := PySem.Str.ofString "pick", params := (stP (stA 39)), body := (.stmts (stB (stA 39))), scope := (stS (stA 39)), globals := 3, closure := [], defaults := .none, kwdefaults := .none, pyModule := .str (PySem.Str.ofString "siftwall.nat") 460, code := .ref 299 }
noncomputable def o_306 : Obj := { cls := .type "code", data := .fields #[.str (PySem.Str.ofString "setup") 636, .str (PySem.Str.ofString "setup") 637, .str (PySem.Str.ofString "/claim/cut.py") 638, .int 236 0, .int 5 0, .int 0 0, .int 0 0, .int 3 0, .ref 301, .bool true, .int 181 0, .ref 302, .none, .ref 303, .ref 304, .ref 305, .int 646 0, .int 236 0, .str (PySem.Str.ofString "/claim/cut.py") 647] }
noncomputable def F_307 : FuncData := { name := PySem.Str.ofString "setup", qualname := PySem.Str.ofString "setup", params := (stP (stA 40)), body := (.stmts (stB (stA 40))), scope := (stS (stA 40)), globals := 3, closure := [], defaults := .none, kwdefaults := .none, pyModule := .str (PySem.Str.ofString "siftwall.nat") 460, code := .ref 306 }
noncomputable def o_313 : Obj := { cls := .type "code", data := .fields #[.str (PySem.Str.ofString "null_bind") 649, .str (PySem.Str.ofString "null_bind") 650, .str (PySem.Str.ofString "/claim/cut.py") 651, .int 243 0, .int 4 0, .int 0 0, .int 0 0, .int 3 0, .ref 308, .bool true, .int 181 0, .ref 309, .none, .ref 310, .ref 311, .ref 312, .int 656 0, .int 243 0, .str (PySem.Str.ofString "/claim/cut.py") 657] }
noncomputable def F_314 : FuncData := { name := PySem.Str.ofString "null_bind", qualname := PySem.Str.ofString "null_bind", params := (stP (stA 41)), body := (.stmts (stB (stA 41))), scope := (stS (stA 41)), globals := 3, closure := [], defaults := .none, kwdefaults := .none, pyModule := .str (PySem.Str.ofString "siftwall.nat") 460, code := .ref 313 }
noncomputable def o_320 : Obj := { cls := .type "code", data := .fields #[.str (PySem.Str.ofString "_law_draw") 661, .str (PySem.Str.ofString "_law_draw") 662, .str (PySem.Str.ofString "/claim/cut.py") 663, .int 246 0, .int 2 0, .int 0 0, .int 0 0, .int 3 0, .ref 315, .bool true, .int 181 0, .ref 316, .none, .ref 317, .ref 318, .ref 319, .int 668 0, .int 246 0, .str (PySem.Str.ofString "/claim/cut.py") 669] }
noncomputable def F_321 : FuncData := { name := PySem.Str.ofString "_law_draw", qualname := PySem.Str.ofString "_law_draw", params := (stP (stA 43)), body := (.stmts (stB (stA 43))), scope := (stS (stA 43)), globals := 3, closure := [], defaults := .none, kwdefaults := .none, pyModule := .str (PySem.Str.ofString "law_pq1086_01") 659, code := .ref 320 }
noncomputable def o_327 : Obj := { cls := .type "code", data := .fields #[.str (PySem.Str.ofString "_law_rows") 671, .str (PySem.Str.ofString "_law_rows") 672, .str (PySem.Str.ofString "/claim/cut.py") 673, .int 251 0, .int 0 0, .int 0 0, .int 0 0, .int 3 0, .ref 322, .bool true, .int 181 0, .ref 323, .none, .ref 324, .ref 325, .ref 326, .int 674 0, .int 251 0, .str (PySem.Str.ofString "/claim/cut.py") 675] }
noncomputable def F_328 : FuncData := { name := PySem.Str.ofString "_law_rows", qualname := PySem.Str.ofString "_law_rows", params := (stP (stA 44)), body := (.stmts (stB (stA 44))), scope := (stS (stA 44)), globals := 3, closure := [], defaults := .none, kwdefaults := .none, pyModule := .str (PySem.Str.ofString "law_pq1086_01") 659, code := .ref 327 }
noncomputable def o_334 : Obj := { cls := .type "code", data := .fields #[.str (PySem.Str.ofString "_law_is_ping") 677, .str (PySem.Str.ofString "_law_is_ping") 678, .str (PySem.Str.ofString "/claim/cut.py") 679, .int 253 0, .int 1 0, .int 0 0, .int 0 0, .int 3 0, .ref 329, .bool true, .int 181 0, .ref 330, .none, .ref 331, .ref 332, .ref 333, .int 681 0, .int 253 0, .str (PySem.Str.ofString "/claim/cut.py") 682] }
noncomputable def F_335 : FuncData := { name := PySem.Str.ofString "_law_is_ping", qualname := PySem.Str.ofString "_law_is_ping", params := (stP (stA 45)), body := (.stmts (stB (stA 45))), scope := (stS (stA 45)), globals := 3, closure := [], defaults := .none, kwdefaults := .none, pyModule := .str (PySem.Str.ofString "law_pq1086_01") 659, code := .ref 334 }
noncomputable def o_341 : Obj := { cls := .type "code", data := .fields #[.str (PySem.Str.ofString "_law_answer") 684, .str (PySem.Str.ofString "_law_answer") 685, .str (PySem.Str.ofString "/claim/cut.py") 686, .int 255 0, .int 1 0, .int 0 0, .int 0 0, .int 3 0, .ref 336, .bool true, .int 181 0, .ref 337, .none, .ref 338, .ref 339, .ref 340, .int 689 0, .int 255 0, .str (PySem.Str.ofString "/claim/cut.py") 690] }
noncomputable def F_342 : FuncData := { name := PySem.Str.ofString "_law_answer", qualname := PySem.Str.ofString "_law_answer", params := (stP (stA 46)), body := (.stmts (stB (stA 46))), scope := (stS (stA 46)), globals := 3, closure := [], defaults := .none, kwdefaults := .none, pyModule := .str (PySem.Str.ofString "law_pq1086_01") 659, code := .ref 341 }
noncomputable def o_348 : Obj := { cls := .type "code", data := .fields #[.str (PySem.Str.ofString "_law_with") 692, .str (PySem.Str.ofString "_law_with") 693, .str (PySem.Str.ofString "/claim/cut.py") 694, .int 260 0, .int 3 0, .int 0 0, .int 0 0, .int 3 0, .ref 343, .bool true, .int 181 0, .ref 344, .none, .ref 345, .ref 346, .ref 347, .int 698 0, .int 260 0, .str (PySem.Str.ofString "/claim/cut.py") 699] }
noncomputable def F_349 : FuncData := { name := PySem.Str.ofString "_law_with", qualname := PySem.Str.ofString "_law_with", params := (stP (stA 47)), body := (.stmts (stB (stA 47))), scope := (stS (stA 47)), globals := 3, closure := [], defaults := .none, kwdefaults := .none, pyModule := .str (PySem.Str.ofString "law_pq1086_01") 659, code := .ref 348 }
noncomputable def o_355 : Obj := { cls := .type "code", data := .fields #[.str (PySem.Str.ofString "_law_places") 701, .str (PySem.Str.ofString "_law_places") 702, .str (PySem.Str.ofString "/claim/cut.py") 703, .int 262 0, .int 2 0, .int 0 0, .int 0 0, .int 3 0, .ref 350, .bool true, .int 181 0, .ref 351, .none, .ref 352, .ref 353, .ref 354, .int 707 0, .int 262 0, .str (PySem.Str.ofString "/claim/cut.py") 708] }
noncomputable def F_356 : FuncData := { name := PySem.Str.ofString "_law_places", qualname := PySem.Str.ofString "_law_places", params := (stP (stA 48)), body := (.stmts (stB (stA 48))), scope := (stS (stA 48)), globals := 3, closure := [], defaults := .none, kwdefaults := .none, pyModule := .str (PySem.Str.ofString "law_pq1086_01") 659, code := .ref 355 }
noncomputable def o_362 : Obj := { cls := .type "code", data := .fields #[.str (PySem.Str.ofString "_law_tuple") 710, .str (PySem.Str.ofString "_law_tuple") 711, .str (PySem.Str.ofString "/claim/cut.py") 712, .int 265 0, .int 1 0, .int 0 0, .int 0 0, .int 3 0, .ref 357, .bool true, .int 181 0, .ref 358, .none, .ref 359, .ref 360, .ref 361, .int 719 0, .int 265 0, .str (PySem.Str.ofString "/claim/cut.py") 720] }
noncomputable def F_363 : FuncData := { name := PySem.Str.ofString "_law_tuple", qualname := PySem.Str.ofString "_law_tuple", params := (stP (stA 49)), body := (.stmts (stB (stA 49))), scope := (stS (stA 49)), globals := 3, closure := [], defaults := .none, kwdefaults := .none, pyModule := .str (PySem.Str.ofString "law_pq1086_01") 659, code := .ref 362 }
noncomputable def o_369 : Obj := { cls := .type "code", data := .fields #[.str (PySem.Str.ofString "_law_request") 722, .str (PySem.Str.ofString "_law_request") 723, .str (PySem.Str.ofString "/claim/cut.py") 724, .int 277 0, .int 3 0, .int 0 0, .int 0 0, .int 3 0, .ref 364, .bool true, .int 181 0, .ref 365, .none, .ref 366, .ref 367, .ref 368, .int 739 0, .int 277 0, .str (PySem.Str.ofString "/claim/cut.py") 740] }
noncomputable def F_370 : FuncData := { name := PySem.Str.ofString "_law_request", qualname := PySem.Str.ofString "_law_request", params := (stP (stA 50)), body := (.stmts (stB (stA 50))), scope := (stS (stA 50)), globals := 3, closure := [], defaults := .none, kwdefaults := .none, pyModule := .str (PySem.Str.ofString "law_pq1086_01") 659, code := .ref 369 }
noncomputable def o_376 : Obj := { cls := .type "code", data := .fields #[.str (PySem.Str.ofString "_law_round") 742, .str (PySem.Str.ofString "_law_round") 743, .str (PySem.Str.ofString "/claim/cut.py") 744, .int 286 0, .int 5 0, .int 0 0, .int 0 0, .int 3 0, .ref 371, .bool true, .int 181 0, .ref 372, .none, .ref 373, .ref 374, .ref 375, .int 755 0, .int 286 0, .str (PySem.Str.ofString "/claim/cut.py") 756] }
noncomputable def F_377 : FuncData := { name := PySem.Str.ofString "_law_round", qualname := PySem.Str.ofString "_law_round", params := (stP (stA 51)), body := (.stmts (stB (stA 51))), scope := (stS (stA 51)), globals := 3, closure := [], defaults := .none, kwdefaults := .none, pyModule := .str (PySem.Str.ofString "law_pq1086_01") 659, code := .ref 376 }
noncomputable def o_381 : Obj := { cls := .type "code", data := .fields #[.str (PySem.Str.ofString "_law_waiting") 758, .str (PySem.Str.ofString "_law_waiting") 759, .str (PySem.Str.ofString "/claim/cut.py") 760, .int 299 0, .int 4 0, .int 0 0, .int 0 0, .int 3 0, .ref 378, .bool true, .int 181 0, .ref 379, .none, .none, .none, .ref 380, .int 761 0, .int 299 0, .str (PySem.Str.ofString "/claim/cut.py") 762] }
noncomputable def F_382 : FuncData := { name := PySem.Str.ofString "_law_waiting", qualname := PySem.Str.ofString "_law_waiting", params := (stP (stA 52)), body := (.stmts (stB (stA 52))), scope := (stS (stA 52)), globals := 3, closure := [], defaults := .none, kwdefaults := .none, pyModule := .str (PySem.Str.ofString "law_pq1086_01") 659, code := .ref 381 }
noncomputable def o_388 : Obj := { cls := .type "code", data := .fields #[.str (PySem.Str.ofString "_law_fill") 764, .str (PySem.Str.ofString "_law_fill") 765, .str (PySem.Str.ofString "/claim/cut.py") 766, .int 312 0, .int 4 0, .int 0 0, .int 0 0, .int 3 0, .ref 383, .bool true, .int 181 0, .ref 384, .none, .ref 385, .ref 386, .ref 387, .int 777 0, .int 312 0, .str (PySem.Str.ofString "/claim/cut.py") 778] }
noncomputable def F_389 : FuncData := { name := PySem.Str.ofString "_law_fill", qualname := PySem.Str.ofString "_law_fill", params := (stP (stA 53)), body := (.stmts (stB (stA 53))), scope := (stS (stA 53)), globals := 3, closure := [], defaults := .none, kwdefaults := .none, pyModule := .str (PySem.Str.ofString "law_pq1086_01") 659, code := .ref 388 }
noncomputable def o_395 : Obj := { cls := .type "code", data := .fields #[.str (PySem.Str.ofString "_law_chosen") 780, .str (PySem.Str.ofString "_law_chosen") 781, .str (PySem.Str.ofString "/claim/cut.py") 782, .int 325 0, .int 2 0, .int 0 0, .int 0 0, .int 3 0, .ref 390, .bool true, .int 181 0, .ref 391, .none, .ref 392, .ref 393, .ref 394, .int 788 0, .int 325 0, .str (PySem.Str.ofString "/claim/cut.py") 789] }
noncomputable def F_396 : FuncData := { name := PySem.Str.ofString "_law_chosen", qualname := PySem.Str.ofString "_law_chosen", params := (stP (stA 54)), body := (.stmts (stB (stA 54))), scope := (stS (stA 54)), globals := 3, closure := [], defaults := .none, kwdefaults := .none, pyModule := .str (PySem.Str.ofString "law_pq1086_01") 659, code := .ref 395 }
noncomputable def o_400 : Obj := { cls := .type "code", data := .fields #[.str (PySem.Str.ofString "_law_holds") 791, .str (PySem.Str.ofString "_law_holds") 792, .str (PySem.Str.ofString "/claim/cut.py") 793, .int 335 0, .int 1 0, .int 0 0, .int 0 0, .int 3 0, .ref 397, .bool true, .int 181 0, .ref 398, .none, .none, .none, .ref 399, .int 794 0, .int 335 0, .str (PySem.Str.ofString "/claim/cut.py") 795] }
noncomputable def F_401 : FuncData := { name := PySem.Str.ofString "_law_holds", qualname := PySem.Str.ofString "_law_holds", params := (stP (stA 55)), body := (.stmts (stB (stA 55))), scope := (stS (stA 55)), globals := 3, closure := [], defaults := .none, kwdefaults := .none, pyModule := .str (PySem.Str.ofString "law_pq1086_01") 659, code := .ref 400 }
noncomputable def kf (P : Params) : Frag := [(3, o_3 P), (118, o_118), (119, ⟨.type "function", none, .func F_119, #[]⟩), (121, o_121 P), (122, o_122), (134, o_134), (140, o_140), (141, ⟨.type "function", none, .func F_141, #[]⟩), (143, o_143 P), (144, o_144), (154, o_154), (155, ⟨.type "function", none, .func F_155, #[]⟩), (161, o_161), (162, ⟨.type "function", none, .func F_162, #[]⟩), (168, o_168), (169, ⟨.type "function", none, .func F_169, #[]⟩), (175, o_175), (176, ⟨.type "function", none, .func F_176, #[]⟩), (180, o_180), (181, ⟨.type "function", none, .func F_181, #[]⟩), (187, o_187), (188, ⟨.type "function", none, .func F_188, #[]⟩), (194, o_194), (195, ⟨.type "function", none, .func F_195, #[]⟩), (201, o_201), (202, ⟨.type "function", none, .func F_202, #[]⟩), (208, o_208), (209, ⟨.type "function", none, .func F_209, #[]⟩), (215, o_215), (216, ⟨.type "function", none, .func F_216, #[]⟩), (222, o_222), (223, ⟨.type "function", none, .func F_223, #[]⟩), (229, o_229), (230, ⟨.type "function", none, .func F_230, #[]⟩), (236, o_236), (237, ⟨.type "function", none, .func F_237, #[]⟩), (243, o_243), (244, ⟨.type "function", none, .func F_244, #[]⟩), (250, o_250), (251, ⟨.type "function", none, .func F_251, #[]⟩), (257, o_257), (258, ⟨.type "function", none, .func F_258, #[]⟩), (264, o_264), (265, ⟨.type "function", none, .func F_265, #[]⟩), (271, o_271), (272, ⟨.type "function", none, .func F_272, #[]⟩), (278, o_278), (279, ⟨.type "function", none, .func F_279, #[]⟩), (285, o_285), (286, ⟨.type "function", none, .func F_286, #[]⟩), (292, o_292), (293, ⟨.type "function", none, .func F_293, #[]⟩), (299, o_299), (300, ⟨.type "function", none, .func F_300, #[]⟩), (306, o_306), (307, ⟨.type "function", none, .func F_307, #[]⟩), (313, o_313), (314, ⟨.type "function", none, .func F_314, #[]⟩), (320, o_320), (321, ⟨.type "function", none, .func F_321, #[]⟩), (327, o_327), (328, ⟨.type "function", none, .func F_328, #[]⟩), (334, o_334), (335, ⟨.type "function", none, .func F_335, #[]⟩), (341, o_341), (342, ⟨.type "function", none, .func F_342, #[]⟩), (348, o_348), (349, ⟨.type "function", none, .func F_349, #[]⟩), (355, o_355), (356, ⟨.type "function", none, .func F_356, #[]⟩), (362, o_362), (363, ⟨.type "function", none, .func F_363, #[]⟩), (369, o_369), (370, ⟨.type "function", none, .func F_370, #[]⟩), (376, o_376), (377, ⟨.type "function", none, .func F_377, #[]⟩), (381, o_381), (382, ⟨.type "function", none, .func F_382, #[]⟩), (388, o_388), (389, ⟨.type "function", none, .func F_389, #[]⟩), (395, o_395), (396, ⟨.type "function", none, .func F_396, #[]⟩), (400, o_400), (401, ⟨.type "function", none, .func F_401, #[]⟩)]
noncomputable def kfA : List Addr := [3, 118, 119, 121, 122, 134, 140, 141, 143, 144, 154, 155, 161, 162, 168, 169, 175, 176, 180, 181, 187, 188, 194, 195, 201, 202, 208, 209, 215, 216, 222, 223, 229, 230, 236, 237, 243, 244, 250, 251, 257, 258, 264, 265, 271, 272, 278, 279, 285, 286, 292, 293, 299, 300, 306, 307, 313, 314, 320, 321, 327, 328, 334, 335, 341, 342, 348, 349, 355, 356, 362, 363, 369, 370, 376, 377, 381, 382, 388, 389, 395, 396, 400, 401]

noncomputable def annT : Option Value := some (.ref 6)
noncomputable def S0 (w : World) (os : OsState) : Shared := ⟨boot_heap w.params, Array.mk [], boot_drawn, boot_toks, os⟩
noncomputable def ta : Thread := ⟨denote treeTable cT, cT, p0, [topFrame p0]⟩
noncomputable def goA (w : World) (os : OsState) : Option (Shared × Thread) := topGo treeTable pr w 11 annT 12 (S0 w os) (topStub pr)
noncomputable def sa (w : World) (os : OsState) : Shared := ((goA w os).getD (S0 w os, ta)).1
theorem goA_ta (w : World) : (fun os => (goA w os).map Prod.snd) = fun _ => some ta := by
  unfold goA ta
  rw [PySem.W.Fast.te15667345088766844465, PySem.W.Fast.te14364793385576792824, PySem.W.Fast.te11892475500146522536]
  kernel_rfl

noncomputable def treeN (f : Nat → Obj) (n : Nat) : Nat → Nat → Nat → BT
  | 0, _, _ => .nil
  | k + 1, a, b => if b < n then .node (f b) (treeN f n k (2 * a) (a + b)) (treeN f n k (2 * a) (2 * a + b)) else .nil
noncomputable def sT (w : World) (os : OsState) : SharedT := ⟨treeN (fun i => ((sa w os).heap.objs.toList[i]?).getD default) 15 5 1 0, 15, {}, Array.mk [], {}, 187, os⟩
theorem block_ (w : World) : (fun os => segRun treeTable pr w 11 annT 1 1 (sa w os) (blockOf bT envT cT p0 [topFrame p0])) = fun os => some (.next, (sT w os).abs, cT, p0) := by
  unfold sT sa goA
  rw [PySem.W.Fast.te14374325043358763698, PySem.W.Fast.te15667345088766844465, PySem.W.Fast.te14364793385576792824]
  kernel_rfl

noncomputable def run1 (w : World) (os : OsState) : Option (Flow × SharedT × Code × Pos) := segRunT treeTable pr w 11 annT 1 3000 (sT w os) (piecesOf bT envT cT p0 [topFrame p0])
noncomputable def keepT : List Nat := [56]
noncomputable def looseT : List Str := [Str.ofString "WallFault", Str.ofString "Misused", Str.ofString "number_of", Str.ofString "octets_of", Str.ofString "turned", Str.ofString "rolled", Str.ofString "mixed", Str.ofString "ended", Str.ofString "little_word", Str.ofString "jhash", Str.ofString "scaled", Str.ofString "DYING", Str.ofString "Talk", Str.ofString "TalkBook", Str.ofString "is_icmp", Str.ofString "answer_kind", Str.ofString "invert", Str.ofString "side_of", Str.ofString "drop_talk", Str.ofString "look_up", Str.ofString "address_of", Str.ofString "port_of", Str.ofString "with_address", Str.ofString "with_port", Str.ofString "has_port", Str.ofString "done_bit", Str.ofString "span_of_request", Str.ofString "port_fits", Str.ofString "in_range", Str.ofString "port_span", Str.ofString "is_used", Str.ofString "pick_address", Str.ofString "keeps_port", Str.ofString "first_place", Str.ofString "free_port", Str.ofString "pick", Str.ofString "setup", Str.ofString "null_bind", Str.ofString "_law_draw", Str.ofString "_law_rows", Str.ofString "_law_is_ping", Str.ofString "_law_answer", Str.ofString "_law_with", Str.ofString "_law_places", Str.ofString "_law_tuple", Str.ofString "_law_request", Str.ofString "_law_round", Str.ofString "_law_waiting", Str.ofString "_law_fill", Str.ofString "_law_chosen", Str.ofString "_law_holds"]
noncomputable def qv : Program := view pr keepT
noncomputable def xtT : Shared → Bool := fun s => xlAt qv [] s && recOk PySem.Challenge.rw_pq1086_01.row.records s
noncomputable def looks (w : World) (s : Shared) :=
  ((staticsOk (importedModules pr.main.body) (boot_heap w.params) s.heap && namesBound pr s.heap && gensDone s && laidKept (boot_heap w.params) s.heap), openSeen qv looseT (importedModules pr.main.body) xtT true s, kfA.map s.heap.get?)
theorem main_ (w : World) : (fun os => (run1 w os).map fun r => (r.1, r.2.2.1, looks w r.2.1.abs)) = fun _ => some (.next, cT, true, openGood qv looseT, (kf w.params).map fun p => some p.2) := by
  unfold run1 sT sa goA looks
  rw [PySem.W.Fast.te10110043849684766642, PySem.W.Fast.te15667345088766844465, PySem.W.Fast.te14364793385576792824, PySem.W.Fast.te4187177175401517315, PySem.W.Fast.te5923862056798008813]
  kernel_rfl
end Sw

open PySem PySem.W PyProof.Rows
namespace Sw
open PySem PySem.W
theorem t_open : opening pr = plainProg pr.main.scope.names := by kernel_rfl
theorem t_fence (s : Shared) : fenceModules? pr s = some s := by kernel_rfl
theorem t_size (P : Params) : ((boot_heap P).isNs mainGlobals && (Array.mk ([] : List GenState)).size == 0, (boot_heap P).objs.size, (boot_heap P).nsMap mainGlobals "__annotations__") = (true, 11, annT) := by kernel_rfl
theorem t_fin (w : World) (s : Shared) (p' : Pos) : topRun treeTable pr w 11 annT 2 s (restOf [] envT cT p' [topFrame p0]) = some s := by
  obtain ⟨h, g, d, t, os⟩ := s
  rfl

theorem run_gen {tb : String → Option Builtin} {p : Program} {w : World} {n₀ a n m k : Nat} {ann : Option Value} {s₀ sA sE : Shared} {t₀ : Thread} {b : List Stmt} {env : Env} {c : Code} {pos p' p'' q : Pos} {s1 sF : SharedT}
    (g : topGo tb p w n₀ ann a s₀ t₀ = some (sA, ⟨denote tb (.body b env), c, pos, [topFrame q]⟩))
    (bl : segRun tb p w n₀ ann 1 n sA (blockOf b env c pos [topFrame q]) = some (.next, s1.abs, c, p'))
    (h : segRunT tb p w n₀ ann 1 m s1 (piecesOf b env c p' [topFrame q]) = some (.next, sF, c, p''))
    (f : topRun tb p w n₀ ann k sF.abs (restOf [] env c p'' [topFrame q]) = some sE) :
    topRun tb p w n₀ ann (a + (n + (m + k))) s₀ t₀ = some sE := by
  have r3 := piece_app (rest := []) (segRun_of h) f
  rw [List.append_nil] at r3
  exact go_top g (piece_block bl r3)

theorem top_from {tb : String → Option Builtin} {p : Program} {w : World} {N n₀ : Nat} {ann : Option Value} {s₀ s : Shared} (z1 : (s₀.heap.isNs mainGlobals && s₀.gens.size == 0) = true) (z2 : s₀.heap.objs.size = n₀) (z3 : s₀.heap.nsMap mainGlobals "__annotations__" = ann)
    (r : topRun tb p w n₀ ann N s₀ (topStub p) = some s) (l : (staticsOk (importedModules p.main.body) s₀.heap s.heap && namesBound p s.heap && gensDone s && laidKept s₀.heap s.heap) = true) : topFrom tb p w N s₀ = some s := by
  unfold topFrom
  rw [z1, z2, z3, r]
  show (match staticsOk (importedModules p.main.body) s₀.heap s.heap && namesBound p s.heap && gensDone s && laidKept s₀.heap s.heap with | true => _ | false => _) = _
  rw [l]
theorem left_gen {p q : Program} {loose : List Str} {Xt : Shared → Bool} {α : Type} {Yf : Shared → α} {Ya : α} {N m₀ M : Nat} {ann : Option Value} {H₀ : Params → Heap} {gs₀ : Array GenState} {d₀ : Drawn} {k₀ : Nat} {w : World}
    (open_ : (fencedOpening treeTable p w N).map (fun s => (s.heap, s.gens, s.drawn, s.toks)) = some (H₀ w.params, gs₀, d₀, k₀))
    (size : ((H₀ w.params).isNs mainGlobals && gs₀.size == 0, (H₀ w.params).objs.size, (H₀ w.params).nsMap mainGlobals "__annotations__") = (true, m₀, ann))
    (run : ∀ os, ∃ s, topRun treeTable p w m₀ ann M ⟨H₀ w.params, gs₀, d₀, k₀, os⟩ (topStub p) = some s ∧
      (staticsOk (importedModules p.main.body) (H₀ w.params) s.heap && namesBound p s.heap && gensDone s && laidKept (H₀ w.params) s.heap) = true ∧ openSeen q loose (importedModules p.main.body) Xt true s = openGood q loose ∧ Yf s = Ya)
    (le : Nat.ble M N = true) :
    (openEnds treeTable p w N).map (fun s => (openSeen q loose (importedModules p.main.body) Xt true s, Yf s)) = some (openGood q loose, Ya) := by
  obtain ⟨⟨h, gs, d, k, os⟩, e, e'⟩ := Option.map_eq_some_iff.mp open_
  obtain rfl : h = H₀ w.params := congrArg Prod.fst e'
  obtain rfl : gs = gs₀ := congrArg (fun x => x.2.1) e'
  obtain rfl : d = d₀ := congrArg (fun x => x.2.2.1) e'
  obtain rfl : k = k₀ := congrArg (fun x => x.2.2.2) e'
  obtain ⟨s, r, l1, l2, l3⟩ := run os
  have r := topRun_mono (N - M) _ _ _ _ r
  rw [Nat.add_sub_of_le (Nat.le_of_ble_eq_true le)] at r
  unfold openEnds
  rw [e]
  show (topFrom treeTable p w N _).map _ = _
  rw [top_from (congrArg Prod.fst size) (congrArg (fun x => x.2.1) size) (congrArg (fun x => x.2.2) size) r l1]
  exact congrArg some (Prod.ext l2 l3)

theorem run_ (w : World) (os : OsState) : ∃ sF : SharedT, topRun treeTable pr w 11 annT 3015 (S0 w os) (topStub pr) = some sF.abs ∧ looks w sF.abs = (true, openGood qv looseT, (kf w.params).map fun p => some p.2) := by
  obtain ⟨⟨f, sF, c, p⟩, m1, m2⟩ := Option.map_eq_some_iff.mp (congrFun (main_ w) os)
  obtain rfl : f = .next := congrArg Prod.fst m2
  obtain rfl : c = cT := congrArg (fun x => x.2.1) m2
  obtain ⟨⟨sA, tA⟩, g1, g2⟩ := Option.map_eq_some_iff.mp (congrFun (goA_ta w) os)
  obtain rfl : tA = ta := g2
  have ea : sa w os = sA := by unfold sa; rw [g1]; rfl
  have b := congrFun (block_ w) os
  rw [ea] at b
  exact ⟨sF, run_gen (a := 12) (n := 1) (m := 3000) (k := 2) g1 b m1 (t_fin w sF.abs p), congrArg (fun x => x.2.2) m2⟩
theorem left_ : LeftO pr qv looseT xtT (Hook.obs (kHook kf kfA fun _ => rfl)) (Hook.val (kHook kf kfA fun _ => rfl)) 3100 := fun w =>
  left_gen (boot_open (N := 3100) t_open rfl t_fence w) (t_size w.params) (fun os => by
    obtain ⟨sF, r, l⟩ := run_ w os
    exact ⟨sF.abs, r, congrArg Prod.fst l, congrArg (fun x => x.2.1) l, congrArg (fun x => x.2.2) l⟩) rfl

/-- the law's own looks, each a kernel check of its own -/
noncomputable abbrev rw1 : OpenLaw := PySem.Challenge.rw_pq1086_01
theorem l_names : namesResolve pr = true := by kernel_rfl
theorem l_road : noRoadLSs { strict := !(importedModules pr.main.body).all cThrough.contains, foot := none, bare := (["vars", "dir", "locals"] : List Str).filter (readsOut pr pr.main.body) } pr.main.body = true := by kernel_rfl
theorem l_meet : (namesMeet pr pr.main.body fun _ n => attrL n) = true := by kernel_rfl
theorem l_look : looksOpen pr = true := look_both (look_both (look_both (look_both (by kernel_rfl) l_names) (by kernel_rfl)) l_road) l_meet
theorem s_part : rw1.row.partSaid = true := by
  unfold OpenRow.partSaid
  repeat' with_reducible refine look_both ?_ ?_
  · exact l_look
  all_goals kernel_rfl
theorem s_row : rw1.row.wellSaid = true := look_both (look_both s_part (by kernel_rfl)) (by kernel_rfl)
theorem said_ : rw1.wellSaid = true := by
  unfold OpenLaw.wellSaid
  repeat' with_reducible refine look_both ?_ ?_
  · exact s_row
  all_goals kernel_rfl
theorem bare_ : rw1.row.prog.bare := ⟨rfl, rfl, rfl, rfl, rfl, by kernel_rfl⟩
theorem ok_ : (chainsOk qv && opensWell rw1.row.prog && (PySem.W.frees rw1.row.toRowW && rw1.row.within.isEmpty)) = true := by decide +kernel
end Sw

namespace Sw
open PySem PySem.W
noncomputable def F_408 : FuncData := { name := PySem.Str.ofString "law", qualname := PySem.Str.ofString "law", params := (stP (stA 56)), body := (.stmts (stB (stA 56))), scope := (stS (stA 56)), globals := 3, closure := [], defaults := .none, kwdefaults := .none }
noncomputable def fdOf (a : Addr) (P : Params) : Option FuncData := match (kf P).lookup a with
  | some o => match o.data with
    | .func fd => some fd
    | _ => none
  | none => none
noncomputable def sc_is_icmp : { b : Scope // stS (stA 17) = b } := by
  refine ⟨?b, ?h⟩
  rotate_left
  conv => lhs; whnf
noncomputable def pa_is_icmp : { b : Arguments // stP (stA 17) = b } := by
  refine ⟨?b, ?h⟩
  rotate_left
  conv => lhs; whnf
noncomputable def b_is_icmp : { b : List Stmt // stB (stA 17) = b } := by
  refine ⟨?b, ?h⟩
  rotate_left
  conv => lhs; whnf
noncomputable def fd_is_icmp : { fd : FuncData // ∀ P, fdOf 155 P = some fd } := ⟨{ F_155 with params := pa_is_icmp.1, scope := sc_is_icmp.1 }, fun _ => rfl⟩
noncomputable def sc_answer_kind : { b : Scope // stS (stA 18) = b } := by
  refine ⟨?b, ?h⟩
  rotate_left
  conv => lhs; whnf
noncomputable def pa_answer_kind : { b : Arguments // stP (stA 18) = b } := by
  refine ⟨?b, ?h⟩
  rotate_left
  conv => lhs; whnf
noncomputable def b_answer_kind : { b : List Stmt // stB (stA 18) = b } := by
  refine ⟨?b, ?h⟩
  rotate_left
  conv => lhs; whnf
noncomputable def fd_answer_kind : { fd : FuncData // ∀ P, fdOf 162 P = some fd } := ⟨{ F_162 with params := pa_answer_kind.1, scope := sc_answer_kind.1 }, fun _ => rfl⟩
noncomputable def sc_invert : { b : Scope // stS (stA 19) = b } := by
  refine ⟨?b, ?h⟩
  rotate_left
  conv => lhs; whnf
noncomputable def pa_invert : { b : Arguments // stP (stA 19) = b } := by
  refine ⟨?b, ?h⟩
  rotate_left
  conv => lhs; whnf
noncomputable def b_invert : { b : List Stmt // stB (stA 19) = b } := by
  refine ⟨?b, ?h⟩
  rotate_left
  conv => lhs; whnf
noncomputable def fd_invert : { fd : FuncData // ∀ P, fdOf 169 P = some fd } := ⟨{ F_169 with params := pa_invert.1, scope := sc_invert.1 }, fun _ => rfl⟩
noncomputable def sc_side_of : { b : Scope // stS (stA 20) = b } := by
  refine ⟨?b, ?h⟩
  rotate_left
  conv => lhs; whnf
noncomputable def pa_side_of : { b : Arguments // stP (stA 20) = b } := by
  refine ⟨?b, ?h⟩
  rotate_left
  conv => lhs; whnf
noncomputable def b_side_of : { b : List Stmt // stB (stA 20) = b } := by
  refine ⟨?b, ?h⟩
  rotate_left
  conv => lhs; whnf
noncomputable def fd_side_of : { fd : FuncData // ∀ P, fdOf 176 P = some fd } := ⟨{ F_176 with params := pa_side_of.1, scope := sc_side_of.1 }, fun _ => rfl⟩
noncomputable def sc_drop_talk : { b : Scope // stS (stA 21) = b } := by
  refine ⟨?b, ?h⟩
  rotate_left
  conv => lhs; whnf
noncomputable def pa_drop_talk : { b : Arguments // stP (stA 21) = b } := by
  refine ⟨?b, ?h⟩
  rotate_left
  conv => lhs; whnf
noncomputable def b_drop_talk : { b : List Stmt // stB (stA 21) = b } := by
  refine ⟨?b, ?h⟩
  rotate_left
  conv => lhs; whnf
noncomputable def fd_drop_talk : { fd : FuncData // ∀ P, fdOf 181 P = some fd } := ⟨{ F_181 with params := pa_drop_talk.1, scope := sc_drop_talk.1 }, fun _ => rfl⟩
noncomputable def sc_look_up : { b : Scope // stS (stA 22) = b } := by
  refine ⟨?b, ?h⟩
  rotate_left
  conv => lhs; whnf
noncomputable def pa_look_up : { b : Arguments // stP (stA 22) = b } := by
  refine ⟨?b, ?h⟩
  rotate_left
  conv => lhs; whnf
noncomputable def b_look_up : { b : List Stmt // stB (stA 22) = b } := by
  refine ⟨?b, ?h⟩
  rotate_left
  conv => lhs; whnf
noncomputable def fd_look_up : { fd : FuncData // ∀ P, fdOf 188 P = some fd } := ⟨{ F_188 with params := pa_look_up.1, scope := sc_look_up.1 }, fun _ => rfl⟩
noncomputable def sc_address_of : { b : Scope // stS (stA 24) = b } := by
  refine ⟨?b, ?h⟩
  rotate_left
  conv => lhs; whnf
noncomputable def pa_address_of : { b : Arguments // stP (stA 24) = b } := by
  refine ⟨?b, ?h⟩
  rotate_left
  conv => lhs; whnf
noncomputable def b_address_of : { b : List Stmt // stB (stA 24) = b } := by
  refine ⟨?b, ?h⟩
  rotate_left
  conv => lhs; whnf
noncomputable def fd_address_of : { fd : FuncData // ∀ P, fdOf 195 P = some fd } := ⟨{ F_195 with params := pa_address_of.1, scope := sc_address_of.1 }, fun _ => rfl⟩
noncomputable def sc_port_of : { b : Scope // stS (stA 25) = b } := by
  refine ⟨?b, ?h⟩
  rotate_left
  conv => lhs; whnf
noncomputable def pa_port_of : { b : Arguments // stP (stA 25) = b } := by
  refine ⟨?b, ?h⟩
  rotate_left
  conv => lhs; whnf
noncomputable def b_port_of : { b : List Stmt // stB (stA 25) = b } := by
  refine ⟨?b, ?h⟩
  rotate_left
  conv => lhs; whnf
noncomputable def fd_port_of : { fd : FuncData // ∀ P, fdOf 202 P = some fd } := ⟨{ F_202 with params := pa_port_of.1, scope := sc_port_of.1 }, fun _ => rfl⟩
noncomputable def sc_with_address : { b : Scope // stS (stA 26) = b } := by
  refine ⟨?b, ?h⟩
  rotate_left
  conv => lhs; whnf
noncomputable def pa_with_address : { b : Arguments // stP (stA 26) = b } := by
  refine ⟨?b, ?h⟩
  rotate_left
  conv => lhs; whnf
noncomputable def b_with_address : { b : List Stmt // stB (stA 26) = b } := by
  refine ⟨?b, ?h⟩
  rotate_left
  conv => lhs; whnf
noncomputable def fd_with_address : { fd : FuncData // ∀ P, fdOf 209 P = some fd } := ⟨{ F_209 with params := pa_with_address.1, scope := sc_with_address.1 }, fun _ => rfl⟩
noncomputable def sc_with_port : { b : Scope // stS (stA 27) = b } := by
  refine ⟨?b, ?h⟩
  rotate_left
  conv => lhs; whnf
noncomputable def pa_with_port : { b : Arguments // stP (stA 27) = b } := by
  refine ⟨?b, ?h⟩
  rotate_left
  conv => lhs; whnf
noncomputable def b_with_port : { b : List Stmt // stB (stA 27) = b } := by
  refine ⟨?b, ?h⟩
  rotate_left
  conv => lhs; whnf
noncomputable def fd_with_port : { fd : FuncData // ∀ P, fdOf 216 P = some fd } := ⟨{ F_216 with params := pa_with_port.1, scope := sc_with_port.1 }, fun _ => rfl⟩
noncomputable def sc_has_port : { b : Scope // stS (stA 28) = b } := by
  refine ⟨?b, ?h⟩
  rotate_left
  conv => lhs; whnf
noncomputable def pa_has_port : { b : Arguments // stP (stA 28) = b } := by
  refine ⟨?b, ?h⟩
  rotate_left
  conv => lhs; whnf
noncomputable def b_has_port : { b : List Stmt // stB (stA 28) = b } := by
  refine ⟨?b, ?h⟩
  rotate_left
  conv => lhs; whnf
noncomputable def fd_has_port : { fd : FuncData // ∀ P, fdOf 223 P = some fd } := ⟨{ F_223 with params := pa_has_port.1, scope := sc_has_port.1 }, fun _ => rfl⟩
noncomputable def sc_done_bit : { b : Scope // stS (stA 29) = b } := by
  refine ⟨?b, ?h⟩
  rotate_left
  conv => lhs; whnf
noncomputable def pa_done_bit : { b : Arguments // stP (stA 29) = b } := by
  refine ⟨?b, ?h⟩
  rotate_left
  conv => lhs; whnf
noncomputable def b_done_bit : { b : List Stmt // stB (stA 29) = b } := by
  refine ⟨?b, ?h⟩
  rotate_left
  conv => lhs; whnf
noncomputable def fd_done_bit : { fd : FuncData // ∀ P, fdOf 230 P = some fd } := ⟨{ F_230 with params := pa_done_bit.1, scope := sc_done_bit.1 }, fun _ => rfl⟩
noncomputable def sc_span_of_request : { b : Scope // stS (stA 30) = b } := by
  refine ⟨?b, ?h⟩
  rotate_left
  conv => lhs; whnf
noncomputable def pa_span_of_request : { b : Arguments // stP (stA 30) = b } := by
  refine ⟨?b, ?h⟩
  rotate_left
  conv => lhs; whnf
noncomputable def b_span_of_request : { b : List Stmt // stB (stA 30) = b } := by
  refine ⟨?b, ?h⟩
  rotate_left
  conv => lhs; whnf
noncomputable def fd_span_of_request : { fd : FuncData // ∀ P, fdOf 237 P = some fd } := ⟨{ F_237 with params := pa_span_of_request.1, scope := sc_span_of_request.1 }, fun _ => rfl⟩
noncomputable def sc_port_fits : { b : Scope // stS (stA 31) = b } := by
  refine ⟨?b, ?h⟩
  rotate_left
  conv => lhs; whnf
noncomputable def pa_port_fits : { b : Arguments // stP (stA 31) = b } := by
  refine ⟨?b, ?h⟩
  rotate_left
  conv => lhs; whnf
noncomputable def b_port_fits : { b : List Stmt // stB (stA 31) = b } := by
  refine ⟨?b, ?h⟩
  rotate_left
  conv => lhs; whnf
noncomputable def fd_port_fits : { fd : FuncData // ∀ P, fdOf 244 P = some fd } := ⟨{ F_244 with params := pa_port_fits.1, scope := sc_port_fits.1 }, fun _ => rfl⟩
noncomputable def sc_in_range : { b : Scope // stS (stA 32) = b } := by
  refine ⟨?b, ?h⟩
  rotate_left
  conv => lhs; whnf
noncomputable def pa_in_range : { b : Arguments // stP (stA 32) = b } := by
  refine ⟨?b, ?h⟩
  rotate_left
  conv => lhs; whnf
noncomputable def b_in_range : { b : List Stmt // stB (stA 32) = b } := by
  refine ⟨?b, ?h⟩
  rotate_left
  conv => lhs; whnf
noncomputable def fd_in_range : { fd : FuncData // ∀ P, fdOf 251 P = some fd } := ⟨{ F_251 with params := pa_in_range.1, scope := sc_in_range.1 }, fun _ => rfl⟩
noncomputable def sc_port_span : { b : Scope // stS (stA 33) = b } := by
  refine ⟨?b, ?h⟩
  rotate_left
  conv => lhs; whnf
noncomputable def pa_port_span : { b : Arguments // stP (stA 33) = b } := by
  refine ⟨?b, ?h⟩
  rotate_left
  conv => lhs; whnf
noncomputable def b_port_span : { b : List Stmt // stB (stA 33) = b } := by
  refine ⟨?b, ?h⟩
  rotate_left
  conv => lhs; whnf
noncomputable def fd_port_span : { fd : FuncData // ∀ P, fdOf 258 P = some fd } := ⟨{ F_258 with params := pa_port_span.1, scope := sc_port_span.1 }, fun _ => rfl⟩
noncomputable def sc_is_used : { b : Scope // stS (stA 34) = b } := by
  refine ⟨?b, ?h⟩
  rotate_left
  conv => lhs; whnf
noncomputable def pa_is_used : { b : Arguments // stP (stA 34) = b } := by
  refine ⟨?b, ?h⟩
  rotate_left
  conv => lhs; whnf
noncomputable def b_is_used : { b : List Stmt // stB (stA 34) = b } := by
  refine ⟨?b, ?h⟩
  rotate_left
  conv => lhs; whnf
noncomputable def fd_is_used : { fd : FuncData // ∀ P, fdOf 265 P = some fd } := ⟨{ F_265 with params := pa_is_used.1, scope := sc_is_used.1 }, fun _ => rfl⟩
noncomputable def sc_pick_address : { b : Scope // stS (stA 35) = b } := by
  refine ⟨?b, ?h⟩
  rotate_left
  conv => lhs; whnf
noncomputable def pa_pick_address : { b : Arguments // stP (stA 35) = b } := by
  refine ⟨?b, ?h⟩
  rotate_left
  conv => lhs; whnf
noncomputable def b_pick_address : { b : List Stmt // stB (stA 35) = b } := by
  refine ⟨?b, ?h⟩
  rotate_left
  conv => lhs; whnf
noncomputable def fd_pick_address : { fd : FuncData // ∀ P, fdOf 272 P = some fd } := ⟨{ F_272 with params := pa_pick_address.1, scope := sc_pick_address.1 }, fun _ => rfl⟩
noncomputable def sc_keeps_port : { b : Scope // stS (stA 36) = b } := by
  refine ⟨?b, ?h⟩
  rotate_left
  conv => lhs; whnf
noncomputable def pa_keeps_port : { b : Arguments // stP (stA 36) = b } := by
  refine ⟨?b, ?h⟩
  rotate_left
  conv => lhs; whnf
noncomputable def b_keeps_port : { b : List Stmt // stB (stA 36) = b } := by
  refine ⟨?b, ?h⟩
  rotate_left
  conv => lhs; whnf
noncomputable def fd_keeps_port : { fd : FuncData // ∀ P, fdOf 279 P = some fd } := ⟨{ F_279 with params := pa_keeps_port.1, scope := sc_keeps_port.1 }, fun _ => rfl⟩
noncomputable def sc_first_place : { b : Scope // stS (stA 37) = b } := by
  refine ⟨?b, ?h⟩
  rotate_left
  conv => lhs; whnf
noncomputable def pa_first_place : { b : Arguments // stP (stA 37) = b } := by
  refine ⟨?b, ?h⟩
  rotate_left
  conv => lhs; whnf
noncomputable def b_first_place : { b : List Stmt // stB (stA 37) = b } := by
  refine ⟨?b, ?h⟩
  rotate_left
  conv => lhs; whnf
noncomputable def fd_first_place : { fd : FuncData // ∀ P, fdOf 286 P = some fd } := ⟨{ F_286 with params := pa_first_place.1, scope := sc_first_place.1 }, fun _ => rfl⟩
noncomputable def sc_free_port : { b : Scope // stS (stA 38) = b } := by
  refine ⟨?b, ?h⟩
  rotate_left
  conv => lhs; whnf
noncomputable def pa_free_port : { b : Arguments // stP (stA 38) = b } := by
  refine ⟨?b, ?h⟩
  rotate_left
  conv => lhs; whnf
noncomputable def b_free_port : { b : List Stmt // stB (stA 38) = b } := by
  refine ⟨?b, ?h⟩
  rotate_left
  conv => lhs; whnf
noncomputable def fd_free_port : { fd : FuncData // ∀ P, fdOf 293 P = some fd } := ⟨{ F_293 with params := pa_free_port.1, scope := sc_free_port.1 }, fun _ => rfl⟩
noncomputable def sc_pick : { b : Scope // stS (stA 39) = b } := by
  refine ⟨?b, ?h⟩
  rotate_left
  conv => lhs; whnf
noncomputable def pa_pick : { b : Arguments // stP (stA 39) = b } := by
  refine ⟨?b, ?h⟩
  rotate_left
  conv => lhs; whnf
noncomputable def b_pick : { b : List Stmt // stB (stA 39) = b } := by
  refine ⟨?b, ?h⟩
  rotate_left
  conv => lhs; whnf
noncomputable def fd_pick : { fd : FuncData // ∀ P, fdOf 300 P = some fd } := ⟨{ F_300 with params := pa_pick.1, scope := sc_pick.1 }, fun _ => rfl⟩
noncomputable def sc_setup : { b : Scope // stS (stA 40) = b } := by
  refine ⟨?b, ?h⟩
  rotate_left
  conv => lhs; whnf
noncomputable def pa_setup : { b : Arguments // stP (stA 40) = b } := by
  refine ⟨?b, ?h⟩
  rotate_left
  conv => lhs; whnf
noncomputable def b_setup : { b : List Stmt // stB (stA 40) = b } := by
  refine ⟨?b, ?h⟩
  rotate_left
  conv => lhs; whnf
noncomputable def fd_setup : { fd : FuncData // ∀ P, fdOf 307 P = some fd } := ⟨{ F_307 with params := pa_setup.1, scope := sc_setup.1 }, fun _ => rfl⟩
noncomputable def sc_null_bind : { b : Scope // stS (stA 41) = b } := by
  refine ⟨?b, ?h⟩
  rotate_left
  conv => lhs; whnf
noncomputable def pa_null_bind : { b : Arguments // stP (stA 41) = b } := by
  refine ⟨?b, ?h⟩
  rotate_left
  conv => lhs; whnf
noncomputable def b_null_bind : { b : List Stmt // stB (stA 41) = b } := by
  refine ⟨?b, ?h⟩
  rotate_left
  conv => lhs; whnf
noncomputable def fd_null_bind : { fd : FuncData // ∀ P, fdOf 314 P = some fd } := ⟨{ F_314 with params := pa_null_bind.1, scope := sc_null_bind.1 }, fun _ => rfl⟩
noncomputable def sc_law_draw : { b : Scope // stS (stA 43) = b } := by
  refine ⟨?b, ?h⟩
  rotate_left
  conv => lhs; whnf
noncomputable def pa_law_draw : { b : Arguments // stP (stA 43) = b } := by
  refine ⟨?b, ?h⟩
  rotate_left
  conv => lhs; whnf
noncomputable def b_law_draw : { b : List Stmt // stB (stA 43) = b } := by
  refine ⟨?b, ?h⟩
  rotate_left
  conv => lhs; whnf
noncomputable def fd_law_draw : { fd : FuncData // ∀ P, fdOf 321 P = some fd } := ⟨{ F_321 with params := pa_law_draw.1, scope := sc_law_draw.1 }, fun _ => rfl⟩
noncomputable def sc_law_rows : { b : Scope // stS (stA 44) = b } := by
  refine ⟨?b, ?h⟩
  rotate_left
  conv => lhs; whnf
noncomputable def pa_law_rows : { b : Arguments // stP (stA 44) = b } := by
  refine ⟨?b, ?h⟩
  rotate_left
  conv => lhs; whnf
noncomputable def b_law_rows : { b : List Stmt // stB (stA 44) = b } := by
  refine ⟨?b, ?h⟩
  rotate_left
  conv => lhs; whnf
noncomputable def fd_law_rows : { fd : FuncData // ∀ P, fdOf 328 P = some fd } := ⟨{ F_328 with params := pa_law_rows.1, scope := sc_law_rows.1 }, fun _ => rfl⟩
noncomputable def sc_law_is_ping : { b : Scope // stS (stA 45) = b } := by
  refine ⟨?b, ?h⟩
  rotate_left
  conv => lhs; whnf
noncomputable def pa_law_is_ping : { b : Arguments // stP (stA 45) = b } := by
  refine ⟨?b, ?h⟩
  rotate_left
  conv => lhs; whnf
noncomputable def b_law_is_ping : { b : List Stmt // stB (stA 45) = b } := by
  refine ⟨?b, ?h⟩
  rotate_left
  conv => lhs; whnf
noncomputable def fd_law_is_ping : { fd : FuncData // ∀ P, fdOf 335 P = some fd } := ⟨{ F_335 with params := pa_law_is_ping.1, scope := sc_law_is_ping.1 }, fun _ => rfl⟩
noncomputable def sc_law_answer : { b : Scope // stS (stA 46) = b } := by
  refine ⟨?b, ?h⟩
  rotate_left
  conv => lhs; whnf
noncomputable def pa_law_answer : { b : Arguments // stP (stA 46) = b } := by
  refine ⟨?b, ?h⟩
  rotate_left
  conv => lhs; whnf
noncomputable def b_law_answer : { b : List Stmt // stB (stA 46) = b } := by
  refine ⟨?b, ?h⟩
  rotate_left
  conv => lhs; whnf
noncomputable def fd_law_answer : { fd : FuncData // ∀ P, fdOf 342 P = some fd } := ⟨{ F_342 with params := pa_law_answer.1, scope := sc_law_answer.1 }, fun _ => rfl⟩
noncomputable def sc_law_with : { b : Scope // stS (stA 47) = b } := by
  refine ⟨?b, ?h⟩
  rotate_left
  conv => lhs; whnf
noncomputable def pa_law_with : { b : Arguments // stP (stA 47) = b } := by
  refine ⟨?b, ?h⟩
  rotate_left
  conv => lhs; whnf
noncomputable def b_law_with : { b : List Stmt // stB (stA 47) = b } := by
  refine ⟨?b, ?h⟩
  rotate_left
  conv => lhs; whnf
noncomputable def fd_law_with : { fd : FuncData // ∀ P, fdOf 349 P = some fd } := ⟨{ F_349 with params := pa_law_with.1, scope := sc_law_with.1 }, fun _ => rfl⟩
noncomputable def sc_law_places : { b : Scope // stS (stA 48) = b } := by
  refine ⟨?b, ?h⟩
  rotate_left
  conv => lhs; whnf
noncomputable def pa_law_places : { b : Arguments // stP (stA 48) = b } := by
  refine ⟨?b, ?h⟩
  rotate_left
  conv => lhs; whnf
noncomputable def b_law_places : { b : List Stmt // stB (stA 48) = b } := by
  refine ⟨?b, ?h⟩
  rotate_left
  conv => lhs; whnf
noncomputable def fd_law_places : { fd : FuncData // ∀ P, fdOf 356 P = some fd } := ⟨{ F_356 with params := pa_law_places.1, scope := sc_law_places.1 }, fun _ => rfl⟩
noncomputable def sc_law_tuple : { b : Scope // stS (stA 49) = b } := by
  refine ⟨?b, ?h⟩
  rotate_left
  conv => lhs; whnf
noncomputable def pa_law_tuple : { b : Arguments // stP (stA 49) = b } := by
  refine ⟨?b, ?h⟩
  rotate_left
  conv => lhs; whnf
noncomputable def b_law_tuple : { b : List Stmt // stB (stA 49) = b } := by
  refine ⟨?b, ?h⟩
  rotate_left
  conv => lhs; whnf
noncomputable def fd_law_tuple : { fd : FuncData // ∀ P, fdOf 363 P = some fd } := ⟨{ F_363 with params := pa_law_tuple.1, scope := sc_law_tuple.1 }, fun _ => rfl⟩
noncomputable def sc_law_request : { b : Scope // stS (stA 50) = b } := by
  refine ⟨?b, ?h⟩
  rotate_left
  conv => lhs; whnf
noncomputable def pa_law_request : { b : Arguments // stP (stA 50) = b } := by
  refine ⟨?b, ?h⟩
  rotate_left
  conv => lhs; whnf
noncomputable def b_law_request : { b : List Stmt // stB (stA 50) = b } := by
  refine ⟨?b, ?h⟩
  rotate_left
  conv => lhs; whnf
noncomputable def fd_law_request : { fd : FuncData // ∀ P, fdOf 370 P = some fd } := ⟨{ F_370 with params := pa_law_request.1, scope := sc_law_request.1 }, fun _ => rfl⟩
noncomputable def sc_law_round : { b : Scope // stS (stA 51) = b } := by
  refine ⟨?b, ?h⟩
  rotate_left
  conv => lhs; whnf
noncomputable def pa_law_round : { b : Arguments // stP (stA 51) = b } := by
  refine ⟨?b, ?h⟩
  rotate_left
  conv => lhs; whnf
noncomputable def b_law_round : { b : List Stmt // stB (stA 51) = b } := by
  refine ⟨?b, ?h⟩
  rotate_left
  conv => lhs; whnf
noncomputable def fd_law_round : { fd : FuncData // ∀ P, fdOf 377 P = some fd } := ⟨{ F_377 with params := pa_law_round.1, scope := sc_law_round.1 }, fun _ => rfl⟩
noncomputable def sc_law_waiting : { b : Scope // stS (stA 52) = b } := by
  refine ⟨?b, ?h⟩
  rotate_left
  conv => lhs; whnf
noncomputable def pa_law_waiting : { b : Arguments // stP (stA 52) = b } := by
  refine ⟨?b, ?h⟩
  rotate_left
  conv => lhs; whnf
noncomputable def b_law_waiting : { b : List Stmt // stB (stA 52) = b } := by
  refine ⟨?b, ?h⟩
  rotate_left
  conv => lhs; whnf
noncomputable def fd_law_waiting : { fd : FuncData // ∀ P, fdOf 382 P = some fd } := ⟨{ F_382 with params := pa_law_waiting.1, scope := sc_law_waiting.1 }, fun _ => rfl⟩
noncomputable def sc_law_fill : { b : Scope // stS (stA 53) = b } := by
  refine ⟨?b, ?h⟩
  rotate_left
  conv => lhs; whnf
noncomputable def pa_law_fill : { b : Arguments // stP (stA 53) = b } := by
  refine ⟨?b, ?h⟩
  rotate_left
  conv => lhs; whnf
noncomputable def b_law_fill : { b : List Stmt // stB (stA 53) = b } := by
  refine ⟨?b, ?h⟩
  rotate_left
  conv => lhs; whnf
noncomputable def fd_law_fill : { fd : FuncData // ∀ P, fdOf 389 P = some fd } := ⟨{ F_389 with params := pa_law_fill.1, scope := sc_law_fill.1 }, fun _ => rfl⟩
noncomputable def sc_law_chosen : { b : Scope // stS (stA 54) = b } := by
  refine ⟨?b, ?h⟩
  rotate_left
  conv => lhs; whnf
noncomputable def pa_law_chosen : { b : Arguments // stP (stA 54) = b } := by
  refine ⟨?b, ?h⟩
  rotate_left
  conv => lhs; whnf
noncomputable def b_law_chosen : { b : List Stmt // stB (stA 54) = b } := by
  refine ⟨?b, ?h⟩
  rotate_left
  conv => lhs; whnf
noncomputable def fd_law_chosen : { fd : FuncData // ∀ P, fdOf 396 P = some fd } := ⟨{ F_396 with params := pa_law_chosen.1, scope := sc_law_chosen.1 }, fun _ => rfl⟩
noncomputable def sc_law_holds : { b : Scope // stS (stA 55) = b } := by
  refine ⟨?b, ?h⟩
  rotate_left
  conv => lhs; whnf
noncomputable def pa_law_holds : { b : Arguments // stP (stA 55) = b } := by
  refine ⟨?b, ?h⟩
  rotate_left
  conv => lhs; whnf
noncomputable def b_law_holds : { b : List Stmt // stB (stA 55) = b } := by
  refine ⟨?b, ?h⟩
  rotate_left
  conv => lhs; whnf
noncomputable def fd_law_holds : { fd : FuncData // ∀ P, fdOf 401 P = some fd } := ⟨{ F_401 with params := pa_law_holds.1, scope := sc_law_holds.1 }, fun _ => rfl⟩
noncomputable def sc_law : { b : Scope // stS (stA 56) = b } := by
  refine ⟨?b, ?h⟩
  rotate_left
  conv => lhs; whnf
noncomputable def pa_law : { b : Arguments // stP (stA 56) = b } := by
  refine ⟨?b, ?h⟩
  rotate_left
  conv => lhs; whnf
noncomputable def b_law : { b : List Stmt // stB (stA 56) = b } := by
  refine ⟨?b, ?h⟩
  rotate_left
  conv => lhs; whnf
noncomputable def fd_law : { fd : FuncData // F_408 = fd } := ⟨{ F_408 with params := pa_law.1, scope := sc_law.1 }, rfl⟩
noncomputable def sc_talk_init : { b : Scope // stS (stM 15 0) = b } := by
  refine ⟨?b, ?h⟩
  rotate_left
  conv => lhs; whnf
noncomputable def pa_talk_init : { b : Arguments // stP (stM 15 0) = b } := by
  refine ⟨?b, ?h⟩
  rotate_left
  conv => lhs; whnf
noncomputable def b_talk_init : { b : List Stmt // stB (stM 15 0) = b } := by
  refine ⟨?b, ?h⟩
  rotate_left
  conv => lhs; whnf
noncomputable def fd_talk_init : { fd : FuncData // ∀ P, fdOf 119 P = some fd } := ⟨{ F_119 with params := pa_talk_init.1, scope := sc_talk_init.1 }, fun _ => rfl⟩
noncomputable def sc_book_init : { b : Scope // stS (stM 16 0) = b } := by
  refine ⟨?b, ?h⟩
  rotate_left
  conv => lhs; whnf
noncomputable def pa_book_init : { b : Arguments // stP (stM 16 0) = b } := by
  refine ⟨?b, ?h⟩
  rotate_left
  conv => lhs; whnf
noncomputable def b_book_init : { b : List Stmt // stB (stM 16 0) = b } := by
  refine ⟨?b, ?h⟩
  rotate_left
  conv => lhs; whnf
noncomputable def fd_book_init : { fd : FuncData // ∀ P, fdOf 141 P = some fd } := ⟨{ F_141 with params := pa_book_init.1, scope := sc_book_init.1 }, fun _ => rfl⟩
end Sw

namespace Sw
open PySem PySem.W
open scoped Classical

structure Tu where
  nf : Int
  pr : Int
  sa : Int
  sp : Int
  da : Int
  dp : Int

noncomputable def tv (t : Tu) : V := .tup [.int t.nf, .int t.pr, .int t.sa, .int t.sp, .int t.da, .int t.dp]
noncomputable def pingB (a b : Int) : Bool := (decide (a = 2) && decide (b = 1)) || (decide (a = 10) && decide (b = 58))
noncomputable def ping (t : Tu) : Bool := pingB t.nf t.pr
noncomputable def flip (dp : Int) : Int := if dp = 2051 then 3 else if dp = 3 then 2051 else if dp = 32771 then 33027 else 32771
noncomputable def inv (t : Tu) : Tu := if ping t then ⟨t.nf, t.pr, t.da, t.sp, t.sa, flip t.dp⟩ else ⟨t.nf, t.pr, t.da, t.dp, t.sa, t.sp⟩
noncomputable def Dom (t : Tu) : Prop := ping t = true → (t.nf = 2 ∧ (t.dp = 2051 ∨ t.dp = 3)) ∨ (t.nf = 10 ∧ (t.dp = 32771 ∨ t.dp = 33027))
noncomputable def mv (src : Bool) : V := .str (if src then "src" else "dst")
noncomputable def ov : Option Int → V
  | none => .none
  | some i => .int i
noncomputable def pv : Option (Int × Int) → V
  | none => .none
  | some p => .tup [.int p.1, .int p.2]

noncomputable def adr (t : Tu) (src : Bool) : Int := if src then t.sa else t.da
noncomputable def prt (t : Tu) (src : Bool) : Int := if src || ping t then t.sp else t.dp
noncomputable def setA' (t : Tu) (src : Bool) (a : Int) : Tu := if src then { t with sa := a } else { t with da := a }
noncomputable def setP (t : Tu) (src : Bool) (p : Int) : Tu := if src || ping t then { t with sp := p } else { t with dp := p }
noncomputable def hasP (t : Tu) : Bool := decide (t.pr = 6) || decide (t.pr = 17) || ping t
noncomputable def fits (t : Tu) (src : Bool) (p : Option (Int × Int)) : Bool := match p with
  | none => true
  | some p => !hasP t || (decide (p.1 ≤ prt t src) && decide (prt t src ≤ p.2))

/-- a request: the span of addresses, the span of ports, whether it maps nets -/
structure Rq where
  lohi : Option (Int × Int)
  ports : Option (Int × Int)
  net : Bool
noncomputable def flagv (net : Bool) : V := .tup (if net then [.str "netmap"] else [])
noncomputable def rqv (src : Bool) (nf : Int) (q : Rq) : V := .tup [.str (if src then "snat" else "dnat"), .int nf, ov (q.lohi.map (·.1)), ov (q.lohi.map (·.2)), pv q.ports, flagv q.net]
noncomputable def askv (q : Rq) : V := .tup [ov (q.lohi.map (·.1)), ov (q.lohi.map (·.2)), pv q.ports, flagv q.net]
/-- the requests that the law makes -/
noncomputable def RqOk (q : Rq) : Prop := (∀ l h, q.lohi = some (l, h) → 1000 ≤ l ∧ (if q.net then l % 8 = 0 ∧ h = l + 7 else l = h)) ∧ (∀ l h, q.ports = some (l, h) → 0 ≤ l ∧ l ≤ 65535 ∧ 0 ≤ h ∧ h ≤ 65535)

noncomputable def inA (t : Tu) (src : Bool) (q : Rq) : Bool := (match q.lohi with | none => true | some p => decide (p.1 ≤ adr t src) && decide (adr t src ≤ p.2)) && fits t src q.ports
noncomputable def newA (t : Tu) (src : Bool) (q : Rq) : Int := match q.lohi with
  | none => adr t src
  | some p => if q.net then p.1 + adr t src % 8 else p.1
noncomputable def spanP (t : Tu) (src : Bool) (q : Rq) : Option (Int × Int) := if hasP t then (match q.ports with
    | some p => some (if p.1 ≤ p.2 then p else (p.2, p.1))
    | none => if ping t then some (0, 65535) else if src then (if t.sp < 512 then some (1, 511) else if t.sp < 1024 then some (600, 1023) else some (1024, 65535)) else none) else none
noncomputable def sure (q : Rq) : Bool := match q.ports with
  | none => false
  | some p => decide (p.1 = p.2)

noncomputable def roundL (c : Tu) (src : Bool) (lo hi tr : Int) : List (Tu × Bool) :=
  (List.range (min (hi - lo + 1) tr).toNat).map fun (k : Nat) => (setP c src (lo + ((prt c src - lo) % (hi - lo + 1) + k) % (hi - lo + 1)), false)
/-- the rows that wait, in the order in which they are tried -/
noncomputable def waitL (t : Tu) (src : Bool) (q : Rq) (tr : Int) : List (Tu × Bool) :=
  let put := setA' t src (newA t src q)
  (if src && inA t src q then [(t, false)] else []) ++ (if fits t src q.ports then [(put, sure q)] else []) ++
    (match spanP put src q with | none => [(put, true)] | some p => roundL put src p.1 p.2 tr)
noncomputable def pickL (al : Tu → Bool) : List (Tu × Bool) → Tu → Tu × Bool
  | [], last => (last, false)
  | (c, s) :: r, _ => if s then (c, false) else if al (inv c) then pickL al r c else (c, true)

structure Rc where
  key : Tu
  num : Int
  alive : Bool
  ref : Nat
  row : Nat
  gone : Bool
noncomputable def origT (r : Rc) : Tu := ⟨r.key.nf, r.key.pr, r.num, 9, 9, 9⟩
noncomputable def live (rs : List Rc) : List Rc := rs.filter fun r => !r.gone
noncomputable def zk (t : Tu) : V := .tup [.int 0, tv t]
noncomputable def tabOf (L : List Rc) : List (V × V) := L.flatMap fun r => [(zk (origT r), .tup [.int r.num, .int 0]), (zk r.key, .tup [.int r.num, .int 1])]
noncomputable def talksOf (L : List Rc) : List (V × V) := L.map fun r => (.int r.num, .ref r.ref)
noncomputable def aliveL (L : List Rc) (k : Tu) : Bool := L.any fun r => decide (r.key = k) && r.alive
noncomputable def dropL (k : Tu) (L : List Rc) : List Rc := L.filter fun r => !(decide (r.key = k) && !r.alive)
noncomputable def dropR (k : Tu) (rs : List Rc) : List Rc := rs.map fun r => if r.key = k ∧ r.alive = false then { r with gone := true } else r

noncomputable def talkAs (n : Int) (o r : V) (u st : Int) : List (Str × V) := [("number", .int n), ("original", o), ("reply", r), ("zone", .int 0), ("until", .int u), ("since", .int 0), ("mark", .int 0), ("status", .int st), ("state", .int 0), ("sides", .none), ("master", .int 0)]
structure Bk where
  b : Nat
  tb : Nat
  tk : Nat
  fl : Nat
  tr : Int
  pn : Nat
noncomputable def bookAs (B : Bk) (trk ex : Nat) : List (Str × V) := [("most", .int 64), ("seed", .int 0), ("tries", .int B.tr), ("table", .ref B.tb), ("talks", .ref B.tk), ("last", .int 0), ("trackers", .ref trk), ("expects", .ref ex), ("flows", .ref B.fl), ("is_loose", .bool true)]
structure BookW (σ : SH) (B : Bk) (L : List Rc) : Prop where
  book : ∃ trk ex, σ[B.b]? = some (.inst 144 (bookAs B trk ex)) ∧ σ[ex]? = some (.list []) ∧ ex ≠ B.pn ∧ B.pn < σ.length
  table : σ[B.tb]? = some (.dict (tabOf L))
  talks : σ[B.tk]? = some (.dict (talksOf L))
  flows : σ[B.fl]? = some (.dict [])
  each : ∀ r ∈ L, σ[r.ref]? = some (.inst 122 (talkAs r.num (tv (origT r)) (tv r.key) (if r.alive then 9 else 5) 0))
  ne : B.tb ≠ B.tk ∧ B.fl ≠ B.tb ∧ B.fl ≠ B.tk
  nums : (L.map (·.num)).Nodup
  keys : (L.map (·.key)).Nodup
  low : ∀ r ∈ L, 100 ≤ r.num ∧ r.num < 200 ∧ 1000 ≤ r.key.sa
  len : L.length ≤ 100
noncomputable def MeW (σ : SH) (me : Nat) (o r : Tu) (st : Int) : Prop := σ[me]? = some (.inst 122 (talkAs 7 (tv o) (tv r) 0 st))
structure OthW (σ : SH) (o : Nat) (rs : List Rc) : Prop where
  oth : σ[o]? = some (.dict (rs.map fun r => (tv r.key, .ref r.row)))
  each : ∀ r ∈ rs, σ[r.row]? = some (.list [.int (if r.gone then -r.num else r.num), .bool r.alive])
  nums : ∀ (i : Nat) (r : Rc), rs[i]? = some r → r.num = 100 + (i : Int)
  keys : (rs.map (·.key)).Nodup
  ok : ∀ r ∈ rs, 1000 ≤ r.key.sa ∧ (r.gone = true → r.alive = false)
noncomputable def PenW (σ : SH) (p r : Nat) : Prop := p ≠ r ∧ ∃ (rest : Int) (row : List Int), σ[p]? = some (.dict [(.str "row", .ref r), (.str "rest", .int rest)]) ∧ σ[r]? = some (.list (row.map .int)) ∧ row.length ≤ 18

/-- what stood stands, but for these -/
noncomputable def Ag (ks : List Nat) (σ σ' : SH) : Prop := σ.length ≤ σ'.length ∧ ∀ i o, σ[i]? = some o → i ∉ ks → σ'[i]? = some o
noncomputable def foot (B : Bk) (L : List Rc) : List Nat := B.b :: B.tb :: B.tk :: L.map (·.ref)
noncomputable def after (L : List Rc) (p : Tu × Bool) : List Rc := if p.2 then dropL (inv p.1) L else L
/-- a tuple that may be asked after -/
noncomputable def Big (c : Tu) : Prop := 1000 ≤ c.sa ∧ 1000 ≤ c.da

abbrev Sp := List V → SH → KE → Prop
noncomputable def nsOf (fd : FuncData) : List Str := fd.params.args.map (·.arg)
/-- what is to be shown of a def's body -/
noncomputable def Does (T : Tab) (m : Nat) (fd : FuncData) (b : List Stmt) (P : Sp) : Prop := ∀ vs σ K, P vs σ K → vs.length = (nsOf fd).length ∧ exs (ev T m) b ⟨fd.scope, (nsOf fd).zip vs⟩ σ (retK K)

noncomputable def P_is_icmp : Sp := fun vs σ K => ∃ a b : Int, vs = [.int a, .int b] ∧ K (.bool (pingB a b)) σ
noncomputable def P_answer_kind : Sp := fun vs σ K => ∃ nf k r : Int, vs = [.int nf, .int k] ∧ ((nf = 2 ∧ k = 8 ∧ r = 0) ∨ (nf = 2 ∧ k = 0 ∧ r = 8) ∨ (nf = 10 ∧ k = 128 ∧ r = 129) ∨ (nf = 10 ∧ k = 129 ∧ r = 128)) ∧ K (.int r) σ
noncomputable def P_invert : Sp := fun vs σ K => ∃ t, vs = [tv t] ∧ Dom t ∧ K (tv (inv t)) σ
noncomputable def P_side_of : Sp := fun vs σ K => ∃ k d C as v, vs = [.ref k, .int d] ∧ σ[k]? = some (.inst C as) ∧ ((d = 0 ∧ as.lookup ("original" : Str) = some v) ∨ (d = 1 ∧ as.lookup ("reply" : Str) = some v)) ∧ K v σ
noncomputable def P_drop_talk : Sp := fun vs σ K => ∃ B L r, vs = [.ref B.b, .ref r.ref] ∧ r ∈ L ∧ BookW σ B L ∧ ∀ σ', BookW σ' B (L.filter fun q => decide (q.num ≠ r.num)) → Ag (foot B L) σ σ' → K .none σ'
noncomputable def P_look_up : Sp := fun vs σ K => ∃ B L k, vs = [.ref B.b, .int 0, tv k, .int 5] ∧ 1000 ≤ k.sa ∧ BookW σ B L ∧
  ((∀ r ∈ L, r.key ≠ k) → K .none σ) ∧ (∀ r ∈ L, r.key = k → r.alive = true → K (.tup [.ref r.ref, .int 1]) σ) ∧
  (∀ r ∈ L, r.key = k → r.alive = false → ∀ σ', BookW σ' B (L.filter fun q => decide (q.num ≠ r.num)) → Ag (foot B L) σ σ' → K .none σ')
noncomputable def P_address_of : Sp := fun vs σ K => ∃ t src, vs = [tv t, mv src] ∧ K (.int (adr t src)) σ
noncomputable def P_port_of : Sp := fun vs σ K => ∃ t src, vs = [tv t, mv src] ∧ K (.int (prt t src)) σ
noncomputable def P_with_address : Sp := fun vs σ K => ∃ t src a, vs = [tv t, mv src, .int a] ∧ K (tv (setA' t src a)) σ
noncomputable def P_with_port : Sp := fun vs σ K => ∃ t src a, vs = [tv t, mv src, .int a] ∧ K (tv (setP t src a)) σ
noncomputable def P_has_port : Sp := fun vs σ K => ∃ t, vs = [tv t] ∧ K (.bool (hasP t)) σ
noncomputable def P_done_bit : Sp := fun vs σ K => ∃ src, vs = [mv src] ∧ K (.int (if src then 128 else 256)) σ
noncomputable def P_span_of_request : Sp := fun vs σ K => ∃ src nf q, vs = [rqv src nf q] ∧ K (pv q.lohi) σ
noncomputable def P_port_fits : Sp := fun vs σ K => ∃ t src p, vs = [tv t, mv src, pv (some p)] ∧ K (.bool (fits t src (some p))) σ
noncomputable def P_in_range : Sp := fun vs σ K => ∃ t src nf q, vs = [tv t, mv src, rqv src nf q] ∧ K (.bool (inA t src q)) σ
noncomputable def P_port_span : Sp := fun vs σ K => ∃ t src nf q, vs = [tv t, mv src, rqv src nf q] ∧ K (pv (spanP t src q)) σ
noncomputable def P_is_used : Sp := fun vs σ K => ∃ B L me o r st c, vs = [.ref B.b, .ref me, tv c, .int 5] ∧ Dom c ∧ Big c ∧ BookW σ B L ∧ MeW σ me o r st ∧ ∀ σ', BookW σ' B (dropL (inv c) L) → Ag (foot B L) σ σ' → K (.bool (aliveL L (inv c))) σ'
noncomputable def P_pick_address : Sp := fun vs σ K => ∃ b t src nf q, vs = [.ref b, tv t, mv src, rqv src nf q] ∧ RqOk q ∧ 0 ≤ adr t src ∧ K (.int (newA t src q)) σ
noncomputable def P_keeps_port : Sp := fun vs σ K => ∃ B L me o r st t src nf q, vs = [.ref B.b, .ref me, tv t, mv src, rqv src nf q, .int 5] ∧ Dom t ∧ Big t ∧ BookW σ B L ∧ MeW σ me o r st ∧
  ∀ σ', BookW σ' B (if fits t src q.ports && !sure q then dropL (inv t) L else L) → Ag (foot B L) σ σ' → K (.bool (fits t src q.ports && (sure q || !aliveL L (inv t)))) σ'
noncomputable def P_first_place : Sp := fun vs σ K => ∃ b t src lo hi, vs = [.ref b, tv t, mv src, pv (some (lo, hi)), .bool false] ∧ lo ≤ hi ∧ K (.int ((prt t src - lo) % (hi - lo + 1))) σ
noncomputable def P_free_port : Sp := fun vs σ K => ∃ B L me o r st t src lo hi, vs = [.ref B.b, .ref me, tv t, mv src, pv (some (lo, hi)), .bool false, .int 5] ∧ Dom t ∧ Big t ∧ lo ≤ hi ∧ (1 ≤ B.tr ∧ B.tr ≤ 100) ∧ BookW σ B L ∧ MeW σ me o r st ∧
  ∀ σ', BookW σ' B (after L (pickL (aliveL L) (roundL t src lo hi B.tr) t)) → Ag (foot B L) σ σ' → K (tv (pickL (aliveL L) (roundL t src lo hi B.tr) t).1) σ'
noncomputable def P_pick : Sp := fun vs σ K => ∃ B L me o r st t src nf q, vs = [.ref B.b, .ref me, tv t, mv src, rqv src nf q, .int 5] ∧ Dom t ∧ Big t ∧ RqOk q ∧ (1 ≤ B.tr ∧ B.tr ≤ 100) ∧ BookW σ B L ∧ MeW σ me o r st ∧
  ∀ σ', BookW σ' B (after L (pickL (aliveL L) (waitL t src q B.tr) t)) → Ag (foot B L) σ σ' → K (tv (pickL (aliveL L) (waitL t src q B.tr) t).1) σ'
noncomputable def stNew (src : Bool) (st : Int) (moved : Bool) : Int := Builtin.bitOr (if moved then Builtin.bitOr st (if src then 16 else 32) else st) (if src then 128 else 256)
/-- what setup does: the reply, the status, the book -/
noncomputable def P_setup : Sp := fun vs σ K => ∃ B L me o t st src nf q, vs = [.ref B.b, .ref me, mv src, rqv src nf q, .int 5] ∧ Dom t ∧ Big t ∧ RqOk q ∧ (1 ≤ B.tr ∧ B.tr ≤ 100) ∧ BookW σ B L ∧ MeW σ me o (inv t) st ∧
  ∀ σ', BookW σ' B (after L (pickL (aliveL L) (waitL t src q B.tr) t)) → MeW σ' me o (inv (pickL (aliveL L) (waitL t src q B.tr) t).1) (stNew src st (decide ((pickL (aliveL L) (waitL t src q B.tr) t).1 ≠ t))) → Ag (me :: foot B L) σ σ' → K .none σ'
noncomputable def P_null_bind : Sp := fun vs σ K => ∃ B L me o t st src, vs = [.ref B.b, .ref me, mv src, .int 5] ∧ Dom t ∧ Big t ∧ (1 ≤ B.tr ∧ B.tr ≤ 100) ∧ BookW σ B L ∧ MeW σ me o (inv t) st ∧
  ∀ σ', BookW σ' B (after L (pickL (aliveL L) (waitL t src ⟨none, none, false⟩ B.tr) t)) → MeW σ' me o (inv (pickL (aliveL L) (waitL t src ⟨none, none, false⟩ B.tr) t).1) (stNew src st (decide ((pickL (aliveL L) (waitL t src ⟨none, none, false⟩ B.tr) t).1 ≠ t))) → Ag (me :: foot B L) σ σ' → K .none σ'

noncomputable def P_Talk_init : Sp := fun vs σ K => ∃ k n o r, vs = [.ref k, .int n, tv o, tv r, .int 0] ∧ σ[k]? = some (.inst 122 []) ∧ K .none (σ.set k (.inst 122 (talkAs n (tv o) (tv r) 0 0)))
noncomputable def P_Talk : Sp := fun vs σ K => ∃ n o r, vs = [.int n, tv o, tv r, .int 0] ∧ K (.ref σ.length) (σ ++ [.inst 122 (talkAs n (tv o) (tv r) 0 0)])
noncomputable def bookAt (n : Nat) (tr : Int) : Bk := ⟨n, n + 1, n + 2, n + 5, tr, 0⟩
noncomputable def P_Book_init : Sp := fun vs σ K => ∃ (σ0 : SH) (tr : Int), vs = [.ref σ0.length, .int 64, .int 0, .int tr] ∧ σ = σ0 ++ [.inst 144 []] ∧ K .none (σ0 ++ [.inst 144 (bookAs (bookAt σ0.length tr) (σ0.length + 3) (σ0.length + 4)), .dict [], .dict [], .dict [], .list [], .dict []])
noncomputable def P_Book : Sp := fun vs σ K => ∃ tr, vs = [.int 64, .int 0, .int tr] ∧ K (.ref σ.length) (σ ++ [.inst 144 (bookAs (bookAt σ.length tr) (σ.length + 3) (σ.length + 4)), .dict [], .dict [], .dict [], .list [], .dict []])

noncomputable def P_draw : Sp := fun vs σ K => ∃ p r many, vs = [.ref p, .int many] ∧ PenW σ p r ∧ 0 < many ∧ many < 2 ^ 40 ∧ ∀ d σ', 0 ≤ d → d < many → PenW σ' p r → Ag [p, r] σ σ' → K (.int d) σ'
noncomputable def P_rows : Sp := fun vs σ K => vs = [] ∧ ∀ k (ks : List Nat) σ', Ag [] σ σ' → σ'[k]? = some (.list (ks.map .ref)) → ks.length = 4 → ks.Nodup → (∀ i ∈ ks, σ.length ≤ i ∧ ∃ row : List Int, σ'[i]? = some (.list (row.map .int)) ∧ row.length ≤ 18) → k ∉ ks → K (.ref k) σ'
noncomputable def P_l_is_ping : Sp := fun vs σ K => ∃ t, vs = [tv t] ∧ K (.bool (ping t)) σ
noncomputable def P_l_answer : Sp := fun vs σ K => ∃ t, vs = [tv t] ∧ Dom t ∧ ∀ σ', Ag [] σ σ' → K (tv (inv t)) σ'
noncomputable def P_l_with : Sp := fun vs σ K => ∃ t n place t', vs = [tv t, .int place, .int n] ∧ ((place = 2 ∧ t' = { t with sa := n }) ∨ (place = 3 ∧ t' = { t with sp := n }) ∨ (place = 4 ∧ t' = { t with da := n }) ∨ (place = 5 ∧ t' = { t with dp := n })) ∧ K (tv t') σ
noncomputable def spotI (src : Bool) : Int := if src then 2 else 4
noncomputable def placeI (t : Tu) (src : Bool) : Int := if src || ping t then 3 else 5
noncomputable def P_l_places : Sp := fun vs σ K => ∃ t src, vs = [tv t, mv src] ∧ K (.tup [.int (spotI src), .int (placeI t src)]) σ
/-- the tuples that the law begins with, and keeps -/
noncomputable def Own (n : Int) (t : Tu) : Prop := (ping t = true → (t.nf = 2 ∧ t.dp = 2051) ∨ (t.nf = 10 ∧ t.dp = 32771)) ∧ (1000 + 8 * n ≤ t.sa ∧ 1000 + 8 * n ≤ t.da) ∧ (0 ≤ t.sp ∧ t.sp ≤ 65535 ∧ 0 ≤ t.dp ∧ t.dp ≤ 65535)
noncomputable def P_l_tuple : Sp := fun vs σ K => ∃ p r, vs = [.ref p] ∧ PenW σ p r ∧ ∀ t σ', Own 3 t → PenW σ' p r → Ag [p, r] σ σ' → K (tv t) σ'
noncomputable def RqIn (n : Int) (q : Rq) : Prop := RqOk q ∧ ∀ l h, q.lohi = some (l, h) → 1000 + 8 * n ≤ l
noncomputable def P_l_request : Sp := fun vs σ K => ∃ p r t src n, vs = [.ref p, tv t, mv src] ∧ PenW σ p r ∧ Own (n + 1) t ∧ 0 ≤ n ∧ ∀ q σ', RqIn n q → PenW σ' p r → Ag [p, r] σ σ' → K (askv q) σ'
noncomputable def P_l_round : Sp := fun vs σ K => ∃ t src q tr, vs = [tv t, .int (placeI t src), pv q.ports, mv src, .int tr] ∧ (1 ≤ tr ∧ tr ≤ 100) ∧ RqOk q ∧
  ∀ k σ', Ag [] σ σ' → σ'[k]? = some (.list ((match spanP t src q with | none => [] | some p => roundL t src p.1 p.2 tr).map fun (c : Tu × Bool) => tv c.1)) → K (.ref k) σ'
noncomputable def wv (ws : List (Tu × Bool)) : List V := ws.map fun c => .tup [tv c.1, .bool c.2]
noncomputable def P_l_waiting : Sp := fun vs σ K => ∃ t src q tr, vs = [tv t, mv src, askv q, .int tr] ∧ (1 ≤ tr ∧ tr ≤ 100) ∧ RqOk q ∧ ∀ k σ', Ag [] σ σ' → σ'[k]? = some (.list (wv (waitL t src q tr))) → σ.length ≤ k → K (.ref k) σ'
noncomputable def P_l_fill : Sp := fun vs σ K => ∃ p r B w o rs ws, vs = [.ref p, .ref B.b, .ref w, .ref o] ∧ PenW σ p r ∧ BookW σ B (live rs) ∧ OthW σ o rs ∧ σ[w]? = some (.list (wv ws)) ∧ (ws ≠ [] ∧ ws.length ≤ 1000 ∧ ∀ c ∈ ws, Dom c.1 ∧ Big c.1) ∧ rs.length ≤ 16 ∧ (o ≠ B.tb ∧ o ≠ B.tk ∧ o ≠ B.fl ∧ o ≠ p ∧ B.tb ≠ p ∧ B.tk ≠ p) ∧ (B.pn = r ∧ B.fl ≠ p) ∧
  ∀ rs' σ', PenW σ' p r → BookW σ' B (live rs') → OthW σ' o rs' → (rs'.length ≤ rs.length + 8 ∧ ∀ q ∈ rs', q ∈ rs ∨ (σ.length ≤ q.row ∧ σ.length ≤ q.ref)) → Ag [p, r, B.tb, B.tk, o] σ σ' → K .none σ'
noncomputable def aliveR (rs : List Rc) (k : Tu) : Bool := rs.any fun r => decide (r.key = k) && r.alive
noncomputable def P_l_chosen : Sp := fun vs σ K => ∃ w o rs ws d, vs = [.ref w, .ref o] ∧ OthW σ o rs ∧ σ[w]? = some (.list (wv ws)) ∧ ws ≠ [] ∧ ws.length ≤ 1000 ∧ (∀ c ∈ ws, Dom c.1 ∧ Big c.1) ∧ rs.length ≤ 24 ∧
  ∀ σ', OthW σ' o (if (pickL (aliveR rs) ws d).2 then dropR (inv (pickL (aliveR rs) ws d).1) rs else rs) → Ag (rs.map (·.row)) σ σ' → K (tv (pickL (aliveR rs) ws d).1) σ'
noncomputable def P_l_holds : Sp := fun vs σ K => ∃ p r, vs = [.ref p] ∧ PenW σ p r ∧ ∀ σ', Ag [p, r] σ σ' → K (.bool true) σ'

/-- the callables of the module, with the room that each asks -/
noncomputable def tabL : List (Str × Nat × Sp) := [(("is_icmp" : Str), 13, P_is_icmp), (("answer_kind" : Str), 13, P_answer_kind), (("invert" : Str), 29, P_invert), (("side_of" : Str), 13, P_side_of), (("drop_talk" : Str), 29, P_drop_talk), (("look_up" : Str), 45, P_look_up),
  (("address_of" : Str), 13, P_address_of), (("port_of" : Str), 29, P_port_of), (("with_address" : Str), 13, P_with_address), (("with_port" : Str), 29, P_with_port), (("has_port" : Str), 29, P_has_port), (("done_bit" : Str), 13, P_done_bit), (("span_of_request" : Str), 13, P_span_of_request),
  (("port_fits" : Str), 45, P_port_fits), (("in_range" : Str), 61, P_in_range), (("port_span" : Str), 45, P_port_span), (("is_used" : Str), 61, P_is_used), (("pick_address" : Str), 29, P_pick_address), (("keeps_port" : Str), 77, P_keeps_port), (("first_place" : Str), 45, P_first_place),
  (("free_port" : Str), 93, P_free_port), (("pick" : Str), 111, P_pick), (("setup" : Str), 127, P_setup), (("null_bind" : Str), 143, P_null_bind), (("Talk" : Str), 14, P_Talk), (("TalkBook" : Str), 14, P_Book), (("_law_draw" : Str), 13, P_draw), (("_law_rows" : Str), 13, P_rows), (("_law_is_ping" : Str), 13, P_l_is_ping),
  (("_law_answer" : Str), 29, P_l_answer), (("_law_with" : Str), 13, P_l_with), (("_law_places" : Str), 29, P_l_places), (("_law_tuple" : Str), 29, P_l_tuple), (("_law_request" : Str), 45, P_l_request), (("_law_round" : Str), 45, P_l_round), (("_law_waiting" : Str), 61, P_l_waiting), (("_law_fill" : Str), 61, P_l_fill),
  (("_law_chosen" : Str), 45, P_l_chosen), (("_law_holds" : Str), 161, P_l_holds)]
noncomputable def tab : Tab := ⟨fun f => tabL.lookup f, fun x => if x = ("DYING" : Str) then some 512 else none⟩
end Sw

namespace Sw
open PySem PySem.W
open scoped Classical

local macro_rules | `(tactic| walk_at "side1") => `(tactic| first | decide | rfl | (exact of_decide_eq_true rfl) | omega | trivial | decide +kernel | (exact .inr (of_decide_eq_true rfl)))
local macro_rules | `(tactic| walk_at "side") => `(tactic| first | walk_at "side1" | (refine ⟨?_, ?_, ?_⟩ <;> walk_at "side1") | (refine ⟨?_, ?_⟩ <;> walk_at "side1"))
local macro_rules | `(tactic| walk_at "sw") => `(tactic| ((try (conv => whnf)); repeat (refine And.intro ?_ ?_; (walk_at "side"); (try (conv => whnf)))))
local macro_rules | `(tactic| walk_at "if") => `(tactic| (refine ifB_of ?_ ?_ <;> intro _))
local macro_rules | `(tactic| walk_at "auto") => `(tactic| (walk_at "sw"; repeat' (walk_at "if" <;> walk_at "sw")))

theorem eqv_int {a b : Int} : PyData.eqv (.int a) (.int b) = decide (a = b) := by simp only [PyData.eqv]; rfl

theorem d_is_icmp : Does tab 12 fd_is_icmp.1 b_is_icmp.1 P_is_icmp := by
  rintro vs σ K ⟨a, b, rfl, hK⟩
  refine ⟨rfl, ?_⟩
  walk_at "auto"
  all_goals simp_all [pingB, eqv_int]
theorem d_answer_kind : Does tab 12 fd_answer_kind.1 b_answer_kind.1 P_answer_kind := by
  rintro vs σ K ⟨nf, k, r, rfl, h, hK⟩
  refine ⟨rfl, ?_⟩
  rcases h with ⟨rfl, rfl, rfl⟩ | ⟨rfl, rfl, rfl⟩ | ⟨rfl, rfl, rfl⟩ | ⟨rfl, rfl, rfl⟩
  all_goals (walk_at "sw"; exact hK)
theorem d_done_bit : Does tab 12 fd_done_bit.1 b_done_bit.1 P_done_bit := by
  rintro vs σ K ⟨src, rfl, hK⟩
  refine ⟨rfl, ?_⟩
  cases src <;> (walk_at "sw"; exact hK)
theorem d_address_of : Does tab 12 fd_address_of.1 b_address_of.1 P_address_of := by
  rintro vs σ K ⟨t, src, rfl, hK⟩
  refine ⟨rfl, ?_⟩
  cases src <;> (walk_at "sw"; exact hK)
theorem d_with_address : Does tab 12 fd_with_address.1 b_with_address.1 P_with_address := by
  rintro vs σ K ⟨t, src, a, rfl, hK⟩
  refine ⟨rfl, ?_⟩
  cases src <;> (walk_at "sw"; exact hK)
theorem d_side_of : Does tab 12 fd_side_of.1 b_side_of.1 P_side_of := by
  rintro vs σ K ⟨k, d, C, as, v, rfl, hk, h, hK⟩
  refine ⟨rfl, ?_⟩
  rcases h with ⟨rfl, h⟩ | ⟨rfl, h⟩
  · walk_at "sw"
    rw [hk]
    walk_at "sw"
    rw [h]
    exact hK
  · walk_at "sw"
    rw [hk]
    walk_at "sw"
    rw [h]
    exact hK

theorem d_invert : Does tab 28 fd_invert.1 b_invert.1 P_invert := by
  rintro vs σ K ⟨t, rfl, hd, hK⟩
  refine ⟨rfl, ?_⟩
  obtain ⟨nf, pr, sa, sp, da, dp⟩ := t
  walk_at "sw"
  refine ⟨_, _, rfl, ?_⟩
  cases hp : pingB nf pr with
  | false =>
    walk_at "sw"
    have e : inv ⟨nf, pr, sa, sp, da, dp⟩ = ⟨nf, pr, da, dp, sa, sp⟩ := by simp [inv, ping, hp]
    rw [e] at hK
    exact hK
  | true =>
    have hd : (nf = 2 ∧ (dp = 2051 ∨ dp = 3)) ∨ (nf = 10 ∧ (dp = 32771 ∨ dp = 33027)) := hd hp
    have e : inv ⟨nf, pr, sa, sp, da, dp⟩ = ⟨nf, pr, da, sp, sa, flip dp⟩ := by simp [inv, ping, hp]
    rw [e] at hK
    rcases hd with ⟨rfl, rfl | rfl⟩ | ⟨rfl, rfl | rfl⟩
    · walk_at "sw"
      refine ⟨_, _, 0, rfl, .inl ⟨rfl, rfl, rfl⟩, ?_⟩
      walk_at "sw"
      rw [show flip 2051 = 0 * 256 + Builtin.bitAnd 2051 255 from by decide] at hK
      exact hK
    · walk_at "sw"
      refine ⟨_, _, 8, rfl, .inr (.inl ⟨rfl, rfl, rfl⟩), ?_⟩
      walk_at "sw"
      rw [show flip 3 = 8 * 256 + Builtin.bitAnd 3 255 from by decide] at hK
      exact hK
    · walk_at "sw"
      refine ⟨_, _, 129, rfl, .inr (.inr (.inl ⟨rfl, rfl, rfl⟩)), ?_⟩
      walk_at "sw"
      rw [show flip 32771 = 129 * 256 + Builtin.bitAnd 32771 255 from by decide] at hK
      exact hK
    · walk_at "sw"
      refine ⟨_, _, 128, rfl, .inr (.inr (.inr ⟨rfl, rfl, rfl⟩)), ?_⟩
      walk_at "sw"
      rw [show flip 33027 = 128 * 256 + Builtin.bitAnd 33027 255 from by decide] at hK
      exact hK
theorem d_port_of : Does tab 28 fd_port_of.1 b_port_of.1 P_port_of := by
  rintro vs σ K ⟨t, src, rfl, hK⟩
  refine ⟨rfl, ?_⟩
  cases src with
  | true => walk_at "sw"; exact hK
  | false =>
    walk_at "sw"
    refine ⟨_, _, rfl, ?_⟩
    cases hp : pingB t.nf t.pr <;> (walk_at "sw"; simp only [prt, ping, hp] at hK; exact hK)
theorem d_with_port : Does tab 28 fd_with_port.1 b_with_port.1 P_with_port := by
  rintro vs σ K ⟨t, src, a, rfl, hK⟩
  refine ⟨rfl, ?_⟩
  cases src with
  | true => walk_at "sw"; exact hK
  | false =>
    walk_at "sw"
    refine ⟨_, _, rfl, ?_⟩
    cases hp : pingB t.nf t.pr <;> (walk_at "sw"; simp only [setP, ping, hp] at hK; exact hK)
theorem d_has_port : Does tab 28 fd_has_port.1 b_has_port.1 P_has_port := by
  rintro vs σ K ⟨t, rfl, hK⟩
  refine ⟨rfl, ?_⟩
  walk_at "sw"
  walk_at "if"
  · walk_at "sw"
    simp_all [hasP, eqv_int]
  · walk_at "sw"
    walk_at "if"
    · walk_at "sw"
      simp_all [hasP, eqv_int]
    · walk_at "sw"
      refine ⟨_, _, rfl, ?_⟩
      walk_at "sw"
      simp_all [hasP, eqv_int, ping]
theorem d_span_of_request : Does tab 12 fd_span_of_request.1 b_span_of_request.1 P_span_of_request := by
  rintro vs σ K ⟨src, nf, q, rfl, hK⟩
  refine ⟨rfl, ?_⟩
  obtain ⟨lohi, ports, net⟩ := q
  cases lohi <;> (walk_at "sw"; exact hK)
theorem d_port_fits : Does tab 44 fd_port_fits.1 b_port_fits.1 P_port_fits := by
  rintro vs σ K ⟨t, src, p, rfl, hK⟩
  refine ⟨rfl, ?_⟩
  walk_at "sw"
  refine ⟨_, rfl, ?_⟩
  cases hp : hasP t with
  | false => walk_at "sw"; simp only [fits, hp] at hK; exact hK
  | true =>
    walk_at "sw"
    refine ⟨_, _, rfl, ?_⟩
    walk_at "auto"
    all_goals simp_all [fits]

section
open PySem PySem.W
open scoped Classical

theorem and8 (l : Nat) (r : Nat) (h : l % 8 = 0) (hr : r < 8) : l &&& r = 0 := by
  have h1 : (l &&& r) / 2 ^ 3 = (l / 2 ^ 3 &&& r / 2 ^ 3) := Nat.and_div_two_pow ..
  have h2 : (l &&& r) % 2 ^ 3 = (l % 2 ^ 3 &&& r % 2 ^ 3) := Nat.and_mod_two_pow ..
  rw [show r / 2 ^ 3 = 0 by omega, Nat.and_zero] at h1
  rw [show l % 2 ^ 3 = 0 by omega, Nat.zero_and] at h2
  omega
theorem and87 (l : Nat) (h : l % 8 = 0) : l &&& (l + 7) = l := by
  have h1 : (l &&& (l + 7)) / 2 ^ 3 = (l / 2 ^ 3 &&& (l + 7) / 2 ^ 3) := Nat.and_div_two_pow ..
  have h2 : (l &&& (l + 7)) % 2 ^ 3 = (l % 2 ^ 3 &&& (l + 7) % 2 ^ 3) := Nat.and_mod_two_pow ..
  rw [show (l + 7) / 2 ^ 3 = l / 2 ^ 3 by omega, Nat.and_self] at h1
  rw [show l % 2 ^ 3 = 0 by omega, Nat.zero_and] at h2
  omega
theorem net_bits {l a : Int} (h0 : 0 ≤ l) (h : l % 8 = 0) (ha : 0 ≤ a) : Builtin.bitOr l (Builtin.bitAnd a (Builtin.bitXor l (l + 7))) = l + a % 8 := by
  obtain ⟨l, rfl⟩ := Int.eq_ofNat_of_zero_le h0
  obtain ⟨a, rfl⟩ := Int.eq_ofNat_of_zero_le ha
  have e1 : Builtin.bitAnd (l : Int) (l + 7) = l := by
    first | refine oP_of (PyProof.Rows.bitAnd_pp (by omega) (by omega)) ?_ | rw [PyProof.Rows.bitAnd_pp (by omega) (by omega)]
    have : ((l : Int) + 7).toNat = l + 7 := by omega
    rw [this, Int.toNat_natCast, and87 l (by omega)]
  have e2 : Builtin.bitXor (l : Int) (l + 7) = 7 := by unfold Builtin.bitXor; rw [PyProof.Rows.bitOr_and, e1]; omega
  have e3 : Builtin.bitAnd (a : Int) 7 = (a : Int) % 8 := by
    first | refine oP_of (PyProof.Rows.bitAnd_pp (by omega) (by omega)) ?_ | rw [PyProof.Rows.bitAnd_pp (by omega) (by omega)]
    have : (a : Int).toNat &&& (7 : Int).toNat = a % 8 := Nat.and_two_pow_sub_one_eq_mod a 3
    rw [this]; omega
  rw [e2, e3, PyProof.Rows.bitOr_and]
  have e4 : Builtin.bitAnd (l : Int) ((a : Int) % 8) = 0 := by
    first | refine oP_of (PyProof.Rows.bitAnd_pp (by omega) (by omega)) ?_ | rw [PyProof.Rows.bitAnd_pp (by omega) (by omega)]
    have : ((a : Int) % 8).toNat = a % 8 := by omega
    rw [this, Int.toNat_natCast, and8 l (a % 8) (by omega) (by omega)]; rfl
  omega

theorem d_first_place : Does tab 44 fd_first_place.1 b_first_place.1 P_first_place := by
  rintro vs σ K ⟨b, t, src, lo, hi, rfl, hl, hK⟩
  refine ⟨rfl, ?_⟩
  walk_at "sw"
  refine ⟨_, _, rfl, ?_⟩
  walk_at "sw"
  have hK : K (.int ((prt t src - lo).fmod (hi - lo + 1))) σ := by rw [Int.fmod_eq_emod_of_nonneg _ (by omega)]; exact hK
  exact hK
theorem d_in_range : Does tab 60 fd_in_range.1 b_in_range.1 P_in_range := by
  rintro vs σ K ⟨t, src, nf, q, rfl, hK⟩
  refine ⟨rfl, ?_⟩
  walk_at "sw"
  refine ⟨_, _, _, rfl, ?_⟩
  obtain ⟨lohi, ports, net⟩ := q
  cases lohi with
  | none =>
    cases ports with
    | none => walk_at "sw"; exact hK
    | some p =>
      walk_at "sw"
      refine ⟨_, _, _, rfl, ?_⟩
      walk_at "sw"
      simp only [inA, Bool.true_and] at hK
      exact hK
  | some l =>
    walk_at "sw"
    refine ⟨_, _, rfl, ?_⟩
    walk_at "sw"
    refine ifB_of (fun h1 => ?_) (fun h1 => ?_)
    · walk_at "sw"
      refine ifB_of (fun h2 => ?_) (fun h2 => ?_)
      · walk_at "sw"
        have e : inA t src ⟨some l, ports, net⟩ = false := by
          have h2 : decide (adr t src ≤ l.2) = false := by simpa using h2
          simp only [inA, h2, Bool.and_false, Bool.false_and]
        rw [e] at hK
        exact hK
      · have e : inA t src ⟨some l, ports, net⟩ = fits t src ports := by
          have h2 : decide (adr t src ≤ l.2) = true := by simpa using h2
          have h1 : decide (l.1 ≤ adr t src) = true := h1
          simp only [inA, h1, h2, Bool.true_and]
        rw [e] at hK
        cases ports with
        | none => walk_at "sw"; exact hK
        | some p =>
          walk_at "sw"
          refine ⟨_, _, _, rfl, ?_⟩
          walk_at "sw"
          exact hK
    · walk_at "sw"
      have e : inA t src ⟨some l, ports, net⟩ = false := by
        have h1 : decide (l.1 ≤ adr t src) = false := h1
        simp only [inA, h1, Bool.false_and]
      rw [e] at hK
      exact hK
theorem d_port_span : Does tab 44 fd_port_span.1 b_port_span.1 P_port_span := by
  rintro vs σ K ⟨t, src, nf, q, rfl, hK⟩
  refine ⟨rfl, ?_⟩
  walk_at "sw"
  refine ⟨_, rfl, ?_⟩
  cases hp : hasP t with
  | false => walk_at "sw"; simp only [spanP, hp] at hK; exact hK
  | true =>
    obtain ⟨lohi, ports, net⟩ := q
    cases ports with
    | some p =>
      walk_at "sw"
      refine ifB_of (fun h => ?_) (fun h => ?_)
      · walk_at "sw"
        have h := of_decide_eq_true h
        simp only [spanP, hp, if_true, if_pos h] at hK
        exact hK
      · walk_at "sw"
        have h := of_decide_eq_false h
        simp only [spanP, hp, if_true, if_neg h] at hK
        exact hK
    | none =>
      walk_at "sw"
      refine ⟨_, _, rfl, ?_⟩
      cases hg : pingB t.nf t.pr with
      | true => walk_at "sw"; simp only [spanP, hp, ping, hg] at hK; exact hK
      | false =>
        cases src with
        | false => walk_at "sw"; simp only [spanP, hp, ping, hg] at hK; exact hK
        | true =>
          simp only [spanP, hp, ping, hg, if_true] at hK
          walk_at "sw"
          refine ifB_of (fun h => ?_) (fun h => ?_)
          · walk_at "sw"
            rw [if_neg (by decide), if_pos (of_decide_eq_true h)] at hK
            exact hK
          · walk_at "sw"
            rw [if_neg (by decide), if_neg (of_decide_eq_false h)] at hK
            refine ifB_of (fun h => ?_) (fun h => ?_)
            · walk_at "sw"
              rw [if_pos (of_decide_eq_true h)] at hK
              exact hK
            · walk_at "sw"
              rw [if_neg (of_decide_eq_false h)] at hK
              exact hK
theorem d_pick_address : Does tab 28 fd_pick_address.1 b_pick_address.1 P_pick_address := by
  rintro vs σ K ⟨b, t, src, nf, q, rfl, hq, ha, hK⟩
  refine ⟨rfl, ?_⟩
  walk_at "sw"
  refine ⟨_, _, _, rfl, ?_⟩
  obtain ⟨lohi, ports, net⟩ := q
  cases lohi with
  | none =>
    walk_at "sw"
    refine ⟨_, _, rfl, ?_⟩
    walk_at "sw"
    exact hK
  | some l =>
    obtain ⟨l, h⟩ := l
    have hq := hq.1 l h rfl
    cases net with
    | true =>
      walk_at "sw"
      refine ⟨_, _, rfl, ?_⟩
      walk_at "sw"
      obtain ⟨h1, h2, rfl⟩ : 1000 ≤ l ∧ l % 8 = 0 ∧ h = l + 7 := hq
      have hK : K (.int (l + adr t src % 8)) σ := hK
      rw [← net_bits (by omega) h2 ha] at hK
      exact hK
    | false =>
      walk_at "sw"
      walk_at "if"
      · walk_at "sw"
        exact hK
      · simp_all [eqv_int]
end

section
open PySem PySem.W
open scoped Classical

theorem tv_inj {a b : Tu} (h : tv a = tv b) : a = b := by
  obtain ⟨a1, a2, a3, a4, a5, a6⟩ := a
  obtain ⟨b1, b2, b3, b4, b5, b6⟩ := b
  simp only [tv, V.tup.injEq, List.cons.injEq, V.int.injEq, and_true] at h
  obtain ⟨rfl, rfl, rfl, rfl, rfl, rfl⟩ := h
  rfl
theorem zk_inj {a b : Tu} (h : zk a = zk b) : a = b := by
  simp only [zk, V.tup.injEq, List.cons.injEq, and_true, true_and] at h
  exact tv_inj h
theorem tab_cons (r : Rc) (L : List Rc) : tabOf (r :: L) = (zk (origT r), .tup [.int r.num, .int 0]) :: (zk r.key, .tup [.int r.num, .int 1]) :: tabOf L := rfl
theorem look_ne {k : V} {p : V × V} {r : List (V × V)} (h : p.1 ≠ k) : look k (p :: r) = look k r := by
  show (if V.beq p.1 k then some p.2 else look k r) = look k r
  rw [if_neg (fun q => h ((V.beq_iff _ _).mp q))]
theorem look_eq {k : V} {p : V × V} {r : List (V × V)} (h : p.1 = k) : look k (p :: r) = some p.2 := by
  show (if V.beq p.1 k then some p.2 else look k r) = some p.2
  rw [if_pos ((V.beq_iff _ _).mpr h)]
theorem delD_ne {k : V} {p : V × V} {r : List (V × V)} (h : p.1 ≠ k) : delD k (p :: r) = p :: delD k r := by
  show (if V.beq p.1 k then r else p :: delD k r) = _
  rw [if_neg (fun q => h ((V.beq_iff _ _).mp q))]
theorem delD_eq {k : V} {p : V × V} {r : List (V × V)} (h : p.1 = k) : delD k (p :: r) = r := by
  show (if V.beq p.1 k then r else p :: delD k r) = _
  rw [if_pos ((V.beq_iff _ _).mpr h)]
theorem delD_mem {k : V} : ∀ {l : List (V × V)} {p : V × V}, p ∈ delD k l → p ∈ l
  | [], _, h => by cases h
  | q :: r, p, h => by
    have h : p ∈ (if V.beq q.1 k then r else q :: delD k r) := h
    split at h
    · exact List.mem_cons_of_mem _ h
    · rcases List.mem_cons.mp h with rfl | h
      · exact List.mem_cons_self
      · exact List.mem_cons_of_mem _ (delD_mem h)
theorem delD_len {k : V} : ∀ {l : List (V × V)}, (delD k l).length ≤ l.length
  | [] => Nat.le_refl _
  | q :: r => by
    show (if V.beq q.1 k then r else q :: delD k r).length ≤ _
    split
    · simp
    · have := delD_len (k := k) (l := r)
      simp only [List.length_cons]; omega
theorem look_delD {k k' : V} (h : k' ≠ k) : ∀ {l : List (V × V)}, look k (delD k' l) = look k l
  | [] => rfl
  | q :: r => by
    by_cases hq : q.1 = k'
    · rw [delD_eq hq, look_ne (by rw [hq]; exact h)]
    · rw [delD_ne hq]
      by_cases hk : q.1 = k
      · rw [look_eq hk, look_eq hk]
      · rw [look_ne hk, look_ne hk, look_delD h]

theorem mem_num {q r : Rc} {L : List Rc} (h : r ∈ L) (e : q.num = r.num) : q.num ∈ L.map (·.num) := by rw [e]; exact List.mem_map.mpr ⟨r, h, rfl⟩
theorem mem_key {q r : Rc} {L : List Rc} (h : r ∈ L) (e : q.key = r.key) : q.key ∈ L.map (·.key) := by rw [e]; exact List.mem_map.mpr ⟨r, h, rfl⟩
/-- what a list of live records keeps -/
structure LOk (L : List Rc) : Prop where
  nums : (L.map (·.num)).Nodup
  keys : (L.map (·.key)).Nodup
  low : ∀ r ∈ L, 100 ≤ r.num ∧ r.num < 200 ∧ 1000 ≤ r.key.sa
theorem LOk.tail {r : Rc} {L : List Rc} (h : LOk (r :: L)) : LOk L := ⟨(List.nodup_cons.mp h.nums).2, (List.nodup_cons.mp h.keys).2, fun q hq => h.low q (List.mem_cons_of_mem _ hq)⟩
theorem BookW.ok {σ : SH} {B : Bk} {L : List Rc} (W : BookW σ B L) : LOk L := ⟨W.nums, W.keys, W.low⟩

theorem orig_ne {r q : Rc} (h : r.num ≠ q.num) : zk (origT r) ≠ zk (origT q) := fun e => h (congrArg Tu.sa (zk_inj e))
theorem orig_key {r : Rc} {k : Tu} (h1 : r.num < 200) (h2 : 1000 ≤ k.sa) : zk (origT r) ≠ zk k := fun e => by
  have : r.num = k.sa := congrArg Tu.sa (zk_inj e)
  omega
theorem key_ne {a b : Tu} (h : a ≠ b) : zk a ≠ zk b := fun e => h (zk_inj e)

theorem look_tab_none {k : Tu} (hk : 1000 ≤ k.sa) : ∀ {L : List Rc}, LOk L → (∀ r ∈ L, r.key ≠ k) → look (zk k) (tabOf L) = none
  | [], _, _ => rfl
  | r :: L, O, h => by
    rw [tab_cons, look_ne (orig_key (O.low r List.mem_cons_self).2.1 hk), look_ne (key_ne (h r List.mem_cons_self))]
    exact look_tab_none hk O.tail fun q hq => h q (List.mem_cons_of_mem _ hq)
theorem look_tab_key {r : Rc} : ∀ {L : List Rc}, LOk L → r ∈ L → look (zk r.key) (tabOf L) = some (.tup [.int r.num, .int 1])
  | q :: L, O, h => by
    have hq := O.low q List.mem_cons_self
    have hr := O.low r h
    rw [tab_cons, look_ne (orig_key hq.2.1 hr.2.2)]
    by_cases e : q.key = r.key
    · rw [look_eq (by rw [e])]
      rcases List.mem_cons.mp h with rfl | h
      · rfl
      · exact absurd (mem_key h e) (List.nodup_cons.mp O.keys).1
    · rw [look_ne (key_ne e)]
      rcases List.mem_cons.mp h with rfl | h
      · exact absurd rfl e
      · exact look_tab_key O.tail h
theorem look_tab_orig {r : Rc} : ∀ {L : List Rc}, LOk L → r ∈ L → look (zk (origT r)) (tabOf L) = some (.tup [.int r.num, .int 0])
  | q :: L, O, h => by
    have hq := O.low q List.mem_cons_self
    have hr := O.low r h
    first | refine oP_of tab_cons ?_ | rw [tab_cons]
    by_cases e : q.num = r.num
    · rcases List.mem_cons.mp h with rfl | h
      · exact look_eq rfl
      · exact absurd (mem_num h e) (List.nodup_cons.mp O.nums).1
    · rw [look_ne (orig_ne e), look_ne (fun z => orig_key hr.2.1 hq.2.2 z.symm)]
      rcases List.mem_cons.mp h with rfl | h
      · exact absurd rfl e
      · exact look_tab_orig O.tail h
theorem filter_all {r : Rc} : ∀ {L : List Rc}, r.num ∉ L.map (·.num) → L.filter (fun q => decide (q.num ≠ r.num)) = L := fun {L} h => List.filter_eq_self.mpr fun q hq => by
  simp only [decide_eq_true_eq]
  intro e
  exact h (e ▸ List.mem_map.mpr ⟨q, hq, rfl⟩)
theorem del_tab {r : Rc} : ∀ {L : List Rc}, LOk L → r ∈ L → delD (zk r.key) (delD (zk (origT r)) (tabOf L)) = tabOf (L.filter fun q => decide (q.num ≠ r.num))
  | q :: L, O, h => by
    have hq := O.low q List.mem_cons_self
    have hr := O.low r h
    first | refine oP_of tab_cons ?_ | rw [tab_cons]
    by_cases e : q.num = r.num
    · rcases List.mem_cons.mp h with rfl | h
      · have a1 : delD (zk (origT r)) ((zk (origT r), V.tup [.int r.num, .int 0]) :: (zk r.key, V.tup [.int r.num, .int 1]) :: tabOf L) = (zk r.key, V.tup [.int r.num, .int 1]) :: tabOf L := delD_eq rfl
        have a2 : delD (zk r.key) ((zk r.key, V.tup [.int r.num, .int 1]) :: tabOf L) = tabOf L := delD_eq rfl
        rw [a1, a2, List.filter_cons_of_neg (by simp), filter_all (List.nodup_cons.mp O.nums).1]
      · exact absurd (mem_num h e) (List.nodup_cons.mp O.nums).1
    · rcases List.mem_cons.mp h with rfl | h
      · exact absurd rfl e
      · have ek : q.key ≠ r.key := fun e => (List.nodup_cons.mp O.keys).1 (mem_key h e)
        have a1 : delD (zk (origT r)) ((zk (origT q), V.tup [.int q.num, .int 0]) :: (zk q.key, V.tup [.int q.num, .int 1]) :: tabOf L) = (zk (origT q), V.tup [.int q.num, .int 0]) :: delD (zk (origT r)) ((zk q.key, V.tup [.int q.num, .int 1]) :: tabOf L) := delD_ne (orig_ne e)
        have a2 : delD (zk (origT r)) ((zk q.key, V.tup [.int q.num, .int 1]) :: tabOf L) = (zk q.key, V.tup [.int q.num, .int 1]) :: delD (zk (origT r)) (tabOf L) := delD_ne (fun z => orig_key hr.2.1 hq.2.2 z.symm)
        have a3 : ∀ X, delD (zk r.key) ((zk (origT q), V.tup [.int q.num, .int 0]) :: X) = (zk (origT q), V.tup [.int q.num, .int 0]) :: delD (zk r.key) X := fun X => delD_ne (orig_key hq.2.1 hr.2.2)
        have a4 : ∀ X, delD (zk r.key) ((zk q.key, V.tup [.int q.num, .int 1]) :: X) = (zk q.key, V.tup [.int q.num, .int 1]) :: delD (zk r.key) X := fun X => delD_ne (key_ne ek)
        rw [a1, a2, a3, a4, del_tab O.tail h, List.filter_cons_of_pos (by simpa using e), tab_cons]
theorem look_talks {r : Rc} : ∀ {L : List Rc}, (L.map (·.num)).Nodup → r ∈ L → look (.int r.num) (talksOf L) = some (.ref r.ref)
  | q :: L, O, h => by
    by_cases e : q.num = r.num
    · rcases List.mem_cons.mp h with rfl | h
      · exact look_eq rfl
      · exact absurd (mem_num h e) (List.nodup_cons.mp O).1
    · rcases List.mem_cons.mp h with rfl | h
      · exact absurd rfl e
      · exact (look_ne (fun z => e (V.int.inj z))).trans (look_talks (List.nodup_cons.mp O).2 h)
theorem del_talks {r : Rc} : ∀ {L : List Rc}, (L.map (·.num)).Nodup → r ∈ L → delD (.int r.num) (talksOf L) = talksOf (L.filter fun q => decide (q.num ≠ r.num))
  | q :: L, O, h => by
    by_cases e : q.num = r.num
    · rcases List.mem_cons.mp h with rfl | h
      · rw [List.filter_cons_of_neg (by simp), filter_all (List.nodup_cons.mp O).1]
        exact delD_eq rfl
      · exact absurd (mem_num h e) (List.nodup_cons.mp O).1
    · rcases List.mem_cons.mp h with rfl | h
      · exact absurd rfl e
      · rw [List.filter_cons_of_pos (by simpa using e)]
        exact (delD_ne (fun z => e (V.int.inj z))).trans (congrArg _ (del_talks (List.nodup_cons.mp O).2 h))
theorem tab_len : ∀ (L : List Rc), (tabOf L).length = 2 * L.length
  | [] => rfl
  | r :: L => by rw [tab_cons, List.length_cons, List.length_cons, tab_len L, List.length_cons]; omega
theorem talks_len (L : List Rc) : (talksOf L).length = L.length := by simp [talksOf]

theorem sort_zk (t : Tu) : keySort (zk t) = 4 := rfl
theorem fits_tab (t : Tu) (L : List Rc) : KeyFits (zk t) (tabOf L) := ⟨by rw [sort_zk]; decide, fun p hp => by
  first | refine oP_of sort_zk ?_ | rw [sort_zk]
  obtain ⟨r, _, hr⟩ := List.mem_flatMap.mp hp
  rcases List.mem_cons.mp hr with rfl | hr
  · rfl
  · obtain rfl := List.mem_singleton.mp hr
    rfl⟩
theorem fits_sub {k : V} {l l' : List (V × V)} (h : KeyFits k l) (hs : ∀ p ∈ l', p ∈ l) : KeyFits k l' := ⟨h.1, fun p hp => h.2 p (hs p hp)⟩
theorem fits_talks (n : Int) (L : List Rc) : KeyFits (.int n) (talksOf L) := ⟨(fun e : 1 = 0 => nomatch e), fun p hp => by
  obtain ⟨r, _, rfl⟩ := List.mem_map.mp hp
  rfl⟩

theorem get_set_ne {σ : SH} {i k : Nat} {o x : SO} (h : σ[i]? = some o) (hne : k ≠ i) : (σ.set k x)[i]? = some o := by rw [List.getElem?_set_ne hne]; exact h
theorem get_set_eq {σ : SH} {k : Nat} {o x : SO} (h : σ[k]? = some o) : (σ.set k x)[k]? = some x := List.getElem?_set_self (List.getElem?_eq_some_iff.mp h).1
theorem get_app {σ l : SH} {i : Nat} {o : SO} (h : σ[i]? = some o) : (σ ++ l)[i]? = some o := by rw [List.getElem?_append_left (List.getElem?_eq_some_iff.mp h).1]; exact h
theorem get_new {σ : SH} {o : SO} : (σ ++ [o])[σ.length]? = some o := by rw [List.getElem?_append_right (Nat.le_refl _), Nat.sub_self]; rfl
theorem ne_of {σ : SH} {i j : Nat} {a b : SO} (h1 : σ[i]? = some a) (h2 : σ[j]? = some b) (h : a ≠ b) : i ≠ j := fun e => by
  subst e
  rw [h1] at h2
  exact h (Option.some.inj h2)

theorem Ag.refl (ks : List Nat) (σ : SH) : Ag ks σ σ := ⟨Nat.le_refl _, fun _ _ h _ => h⟩
theorem Ag.trans {ks : List Nat} {σ σ' σ'' : SH} (a : Ag ks σ σ') (b : Ag ks σ' σ'') : Ag ks σ σ'' := ⟨Nat.le_trans a.1 b.1, fun i o h hn => b.2 i o (a.2 i o h hn) hn⟩
theorem Ag.mono {ks ls : List Nat} {σ σ' : SH} (a : Ag ks σ σ') (h : ∀ i ∈ ks, i ∈ ls) : Ag ls σ σ' := ⟨a.1, fun i o e hn => a.2 i o e fun hm => hn (h i hm)⟩
theorem Ag.set (σ : SH) (k : Nat) (x : SO) : Ag [k] σ (σ.set k x) := ⟨by rw [List.length_set]; exact Nat.le_refl _, fun i o e hn => get_set_ne e fun q => hn (by simp [q])⟩
theorem Ag.app (ks : List Nat) (σ l : SH) : Ag ks σ (σ ++ l) := ⟨by rw [List.length_append]; exact Nat.le_add_right _ _, fun i o e _ => get_app e⟩
theorem BookW.ag {ks : List Nat} {σ σ' : SH} {B : Bk} {L : List Rc} (W : BookW σ B L) (a : Ag ks σ σ') (h : ∀ i ∈ ks, i ∉ foot B L ∧ i ≠ B.fl ∧ ∀ o, σ[i]? = some o → o ≠ .list []) : BookW σ' B L := by
  obtain ⟨trk, ex, hb, hex, hpn⟩ := W.book
  have nf : ∀ i, i ∈ foot B L → i ∉ ks := fun i hi hm => (h i hm).1 hi
  refine ⟨⟨trk, ex, a.2 _ _ hb (nf _ (by simp [foot])), a.2 _ _ hex fun hm => (h ex hm).2.2 _ hex rfl, hpn.1, Nat.lt_of_lt_of_le hpn.2 a.1⟩, a.2 _ _ W.table (nf _ (by simp [foot])), a.2 _ _ W.talks (nf _ (by simp [foot])), a.2 _ _ W.flows fun hm => (h _ hm).2.1 rfl,
    fun r hr => a.2 _ _ (W.each r hr) (nf _ ?_), W.ne, W.nums, W.keys, W.low, W.len⟩
  simp only [foot, List.mem_cons, List.mem_map]
  exact .inr (.inr (.inr ⟨r, hr, rfl⟩))

theorem d_look_up : Does tab 44 fd_look_up.1 b_look_up.1 P_look_up := by
  rintro vs σ K ⟨B, L, k, rfl, hk, W, h0, h1, h2⟩
  refine ⟨rfl, ?_⟩
  obtain ⟨trk, ex, hb, hex, hpn⟩ := W.book
  walk_at "sw"
  first | refine oP_of hb ?_ | rw [hb]
  walk_at "sw"
  first | refine oP_of W.table ?_ | rw [W.table]
  walk_at "sw"
  first | refine oP_of W.table ?_ | rw [W.table]
  walk_at "sw"
  refine ⟨fits_tab k L, ?_⟩
  by_cases hx : ∃ r ∈ L, r.key = k
  · obtain ⟨r, hr, rfl⟩ := hx
    have e := look_tab_key W.ok hr
    walk_at "sw"
    rw [show look (.tup [.int 0, tv r.key]) (tabOf L) = _ from e]
    walk_at "sw"
    first | refine oP_of hb ?_ | rw [hb]
    walk_at "sw"
    first | refine oP_of W.talks ?_ | rw [W.talks]
    walk_at "sw"
    refine ⟨fits_talks _ _, ?_⟩
    first | refine oP_of (look_talks W.nums hr) ?_ | rw [look_talks W.nums hr]
    walk_at "sw"
    first | refine oP_of (W.each r hr) ?_ | rw [W.each r hr]
    walk_at "sw"
    cases ha : r.alive with
    | true =>
      walk_at "sw"
      exact h1 r hr rfl ha
    | false =>
      walk_at "sw"
      refine ⟨B, L, r, rfl, hr, W, fun σ' W' A' => ?_⟩
      walk_at "sw"
      exact h2 r hr rfl ha σ' W' A'
  · have hx : ∀ r ∈ L, r.key ≠ k := fun r hr e => hx ⟨r, hr, e⟩
    have e := look_tab_none hk W.ok hx
    walk_at "sw"
    rw [show look (.tup [.int 0, tv k]) (tabOf L) = _ from e]
    walk_at "sw"
    exact h0 hx
end

section
open PySem PySem.W
open scoped Classical

theorem set_ne' {σ σ1 : SH} {i k : Nat} {o x : SO} (e : σ.set k x = σ1) (h : σ[i]? = some o) (hne : k ≠ i) : σ1[i]? = some o := by rw [← e]; exact get_set_ne h hne
theorem set_eq' {σ σ1 : SH} {k : Nat} {o x : SO} (e : σ.set k x = σ1) (h : σ[k]? = some o) : σ1[k]? = some x := by rw [← e]; exact get_set_eq h
theorem app' {σ σ1 l : SH} {i : Nat} {o : SO} (e : σ ++ l = σ1) (h : σ[i]? = some o) : σ1[i]? = some o := by rw [← e]; exact get_app h
theorem d_drop_talk : Does tab 28 fd_drop_talk.1 b_drop_talk.1 P_drop_talk := by
  rintro vs σ K ⟨B, L, r, rfl, hr, W, hK⟩
  refine ⟨rfl, ?_⟩
  obtain ⟨trk, ex, hb, hex, hpn⟩ := W.book
  have ht := W.table
  have hk := W.talks
  have hf := W.flows
  have he := W.each r hr
  have n1 : B.tb ≠ B.b := ne_of ht hb (fun q => nomatch q)
  have n2 : B.tb ≠ r.ref := ne_of ht he (fun q => nomatch q)
  have n3 : B.tb ≠ ex := ne_of ht hex (fun q => nomatch q)
  have n4 : B.tk ≠ B.b := ne_of hk hb (fun q => nomatch q)
  have n5 : B.tk ≠ r.ref := ne_of hk he (fun q => nomatch q)
  have n6 : B.tk ≠ ex := ne_of hk hex (fun q => nomatch q)
  have n7 : B.b ≠ r.ref := ne_of hb he (fun q => nomatch q)
  have n8 : B.b ≠ ex := ne_of hb hex (fun q => nomatch q)
  have n9 : r.ref ≠ ex := ne_of he hex (fun q => nomatch q)
  have n10 : B.b ≠ B.fl := ne_of hb hf (fun q => nomatch q)
  have n11 : r.ref ≠ B.fl := ne_of he hf (fun q => nomatch q)
  have hlen := W.len
  walk_at "sw"
  first | refine oP_of he ?_ | rw [he]
  walk_at "sw"
  refine ⟨_, _, _, _, _, rfl, he, .inl ⟨rfl, rfl⟩, ?_⟩
  walk_at "sw"
  first | refine oP_of hb ?_ | rw [hb]
  walk_at "sw"
  first | refine oP_of ht ?_ | rw [ht]
  walk_at "sw"
  first | refine oP_of ht ?_ | rw [ht]
  walk_at "sw"
  refine ⟨fits_tab (origT r) L, ?_⟩
  walk_at "sw"
  rw [show look (.tup [.int 0, tv (origT r)]) (tabOf L) = _ from look_tab_orig W.ok hr]
  walk_at "sw"
  first | refine oP_of he ?_ | rw [he]
  walk_at "sw"
  refine ifB_of (fun _ => ?_) (fun h => absurd h (by simp [PyData.eqv, PyData.eqvAll]))
  walk_at "sw"
  first | refine oP_of hb ?_ | rw [hb]
  walk_at "sw"
  first | refine oP_of ht ?_ | rw [ht]
  walk_at "sw"
  have lo := look_tab_orig W.ok hr
  have lk := look_tab_key W.ok hr
  refine ⟨⟨fits_tab (origT r) L, by rw [show look (.tup [.int 0, tv (origT r)]) (tabOf L) = _ from lo]; rfl, by rw [tab_len]; omega⟩, ?_⟩
  generalize hσ1 : σ.set B.tb (.dict (delD (.tup [.int 0, tv (origT r)]) (tabOf L))) = σ1
  have hb1 := set_ne' hσ1 hb n1
  have he1 := set_ne' hσ1 he n2
  have ht1 : σ1[B.tb]? = some (.dict (delD (zk (origT r)) (tabOf L))) := by rw [← hσ1]; exact get_set_eq ht
  have hk1 := set_ne' hσ1 hk W.ne.1
  have hf1 := set_ne' hσ1 hf W.ne.2.1.symm
  have hex1 := set_ne' hσ1 hex n3
  walk_at "sw"
  first | refine oP_of he1 ?_ | rw [he1]
  walk_at "sw"
  refine ⟨_, _, _, _, _, rfl, he1, .inr ⟨rfl, rfl⟩, ?_⟩
  walk_at "sw"
  first | refine oP_of hb1 ?_ | rw [hb1]
  walk_at "sw"
  first | refine oP_of ht1 ?_ | rw [ht1]
  walk_at "sw"
  first | refine oP_of ht1 ?_ | rw [ht1]
  walk_at "sw"
  have lk1 : look (zk r.key) (delD (zk (origT r)) (tabOf L)) = some (.tup [.int r.num, .int 1]) := by
    rw [look_delD (orig_key (W.low r hr).2.1 (W.low r hr).2.2)]; exact lk
  have f1 : KeyFits (zk r.key) (delD (zk (origT r)) (tabOf L)) := fits_sub (fits_tab _ _) fun p hp => delD_mem hp
  refine ⟨f1, ?_⟩
  walk_at "sw"
  rw [show look (.tup [.int 0, tv r.key]) (delD (zk (origT r)) (tabOf L)) = _ from lk1]
  walk_at "sw"
  first | refine oP_of he1 ?_ | rw [he1]
  walk_at "sw"
  refine ifB_of (fun _ => ?_) (fun h => absurd h (by simp [PyData.eqv, PyData.eqvAll]))
  walk_at "sw"
  first | refine oP_of hb1 ?_ | rw [hb1]
  walk_at "sw"
  first | refine oP_of ht1 ?_ | rw [ht1]
  walk_at "sw"
  refine ⟨⟨f1, by rw [show look (.tup [.int 0, tv r.key]) (delD (zk (origT r)) (tabOf L)) = _ from lk1]; rfl, Nat.le_trans delD_len (by rw [tab_len]; omega)⟩, ?_⟩
  generalize hσ2 : σ1.set B.tb (.dict (delD (.tup [.int 0, tv r.key]) (delD (zk (origT r)) (tabOf L)))) = σ2
  have hb2 := set_ne' hσ2 hb1 n1
  have he2 := set_ne' hσ2 he1 n2
  have ht2 : σ2[B.tb]? = some (.dict (tabOf (L.filter fun q => decide (q.num ≠ r.num)))) := by rw [← hσ2, get_set_eq ht1]; exact congrArg (fun x => some (SO.dict x)) (del_tab W.ok hr)
  have hk2 := set_ne' hσ2 hk1 W.ne.1
  have hf2 := set_ne' hσ2 hf1 W.ne.2.1.symm
  have hex2 := set_ne' hσ2 hex1 n3
  walk_at "sw"
  first | refine oP_of he2 ?_ | rw [he2]
  walk_at "sw"
  first | refine oP_of hb2 ?_ | rw [hb2]
  walk_at "sw"
  first | refine oP_of hk2 ?_ | rw [hk2]
  walk_at "sw"
  have l2 : look (.int r.num) (talksOf L) = some (.ref r.ref) := look_talks W.nums hr
  refine ⟨fits_talks _ _, ?_⟩
  walk_at "sw"
  rw [show look (.int r.num) (talksOf L) = _ from l2]
  walk_at "sw"
  first | refine oP_of hb2 ?_ | rw [hb2]
  walk_at "sw"
  first | refine oP_of he2 ?_ | rw [he2]
  walk_at "sw"
  first | refine oP_of hk2 ?_ | rw [hk2]
  walk_at "sw"
  refine ⟨⟨fits_talks _ _, by rw [l2]; rfl, by rw [talks_len]; omega⟩, ?_⟩
  generalize hσ3 : σ2.set B.tk (.dict (delD (.int r.num) (talksOf L))) = σ3
  have hb3 := set_ne' hσ3 hb2 n4
  have he3 := set_ne' hσ3 he2 n5
  have ht3 := set_ne' hσ3 ht2 W.ne.1.symm
  have hk3 : σ3[B.tk]? = some (.dict (talksOf (L.filter fun q => decide (q.num ≠ r.num)))) := by rw [← hσ3, get_set_eq hk2, del_talks W.nums hr]
  have hf3 := set_ne' hσ3 hf2 W.ne.2.2.symm
  have hex3 := set_ne' hσ3 hex2 n6
  walk_at "sw"
  first | refine oP_of hb3 ?_ | rw [hb3]
  walk_at "sw"
  first | refine oP_of hf3 ?_ | rw [hf3]
  walk_at "sw"
  first | refine oP_of get_new ?_ | rw [get_new]
  walk_at "sw"
  refine ⟨get_new, ?_⟩
  generalize hσ4 : σ3 ++ [SO.list []] = σ4
  have hb4 := app' hσ4 hb3
  have he4 := app' hσ4 he3
  have ht4 := app' hσ4 ht3
  have hk4 := app' hσ4 hk3
  have hf4 := app' hσ4 hf3
  have hex4 := app' hσ4 hex3
  walk_at "sw"
  first | refine oP_of hb4 ?_ | rw [hb4]
  walk_at "sw"
  first | refine oP_of hex4 ?_ | rw [hex4]
  walk_at "sw"
  generalize hσ5 : σ4 ++ [SO.list []] = σ5
  have hb5 := app' hσ5 hb4
  have he5 := app' hσ5 he4
  have ht5 := app' hσ5 ht4
  have hk5 := app' hσ5 hk4
  have hf5 := app' hσ5 hf4
  have hx5 : σ5[σ4.length]? = some (.list []) := by rw [← hσ5]; exact get_new
  walk_at "sw"
  first | refine oP_of hb5 ?_ | rw [hb5]
  walk_at "sw"
  generalize hσ6 : σ5.set B.b (.inst 144 (putA "expects" (.ref σ4.length) (bookAs B trk ex))) = σ6
  have hb6 : σ6[B.b]? = some (.inst 144 (bookAs B trk σ4.length)) := set_eq' hσ6 hb5
  have he6 := set_ne' hσ6 he5 n7
  have ht6 := set_ne' hσ6 ht5 n1.symm
  have hk6 := set_ne' hσ6 hk5 n4.symm
  have hf6 := set_ne' hσ6 hf5 n10
  have hx6 := set_ne' hσ6 hx5 (ne_of hb5 hx5 (fun q => nomatch q))
  walk_at "sw"
  first | refine oP_of he6 ?_ | rw [he6]
  walk_at "sw"
  first | refine oP_of he6 ?_ | rw [he6]
  walk_at "sw"
  have A6 : Ag [B.tb, B.tk, B.b] σ σ6 := by
    rw [← hσ6, ← hσ5, ← hσ4, ← hσ3, ← hσ2, ← hσ1]
    exact ((((((Ag.set _ _ _).mono (by simp)).trans ((Ag.set _ _ _).mono (by simp))).trans ((Ag.set _ _ _).mono (by simp))).trans (Ag.app _ _ _)).trans (Ag.app _ _ _)).trans ((Ag.set _ _ _).mono (by simp))
  have hl4 : σ.length ≤ σ4.length := by
    rw [← hσ4, ← hσ3, ← hσ2, ← hσ1]
    simp
  refine hK _ ⟨⟨trk, σ4.length, get_set_ne hb6 n7.symm, get_set_ne hx6 (ne_of he6 hx6 (fun q => nomatch q)), fun e => by omega, by rw [List.length_set]; exact Nat.lt_of_lt_of_le hpn.2 A6.1⟩, get_set_ne ht6 n2.symm, get_set_ne hk6 n5.symm, get_set_ne hf6 n11, fun q hq => ?_, W.ne, ?_, ?_, fun q hq => W.low q (List.mem_filter.mp hq).1, Nat.le_trans (List.length_filter_le _ _) W.len⟩ ((A6.mono fun i hi => ?_).trans ((Ag.set _ _ _).mono fun i hi => ?_))
  · obtain ⟨h1, h2⟩ := List.mem_filter.mp hq
    have h2 : q.num ≠ r.num := by simpa using h2
    have hq0 := W.each q h1
    refine get_set_ne (A6.2 _ _ hq0 fun hm => ?_) (ne_of he hq0 fun e => h2 ?_)
    · simp only [List.mem_cons, List.not_mem_nil, or_false] at hm
      rcases hm with e | e | e
      · exact ne_of hq0 ht (fun q => nomatch q) e
      · exact ne_of hq0 hk (fun q => nomatch q) e
      · exact ne_of hq0 hb (fun q => nomatch q) e
    · injection e with e1 e2
      have := congrArg (List.lookup ("number" : Str)) e2
      have := Option.some.inj this
      exact (V.int.inj this).symm
  · exact List.Nodup.sublist (List.Sublist.map _ List.filter_sublist) W.nums
  · exact List.Nodup.sublist (List.Sublist.map _ List.filter_sublist) W.keys
  · simp only [List.mem_cons, List.not_mem_nil, or_false] at hi
    simp only [foot, List.mem_cons]
    rcases hi with rfl | rfl | rfl <;> simp
  · obtain rfl := List.mem_singleton.mp hi
    simp only [foot, List.mem_cons, List.mem_map]
    exact .inr (.inr (.inr ⟨r, hr, rfl⟩))

theorem nodup_inj {α β : Type} (f : α → β) : ∀ {L : List α}, (L.map f).Nodup → ∀ {a b : α}, a ∈ L → b ∈ L → f a = f b → a = b
  | x :: L, h, a, b, ha, hb, e => by
    rw [List.map_cons, List.nodup_cons] at h
    rcases List.mem_cons.mp ha with h1 | h1 <;> rcases List.mem_cons.mp hb with h2 | h2
    · rw [h1, h2]
    · exact absurd (by rw [← h1, e]; exact List.mem_map.mpr ⟨b, h2, rfl⟩) h.1
    · exact absurd (by rw [← h2, ← e]; exact List.mem_map.mpr ⟨a, h1, rfl⟩) h.1
    · exact nodup_inj f h.2 h1 h2 e
theorem drop_key {L : List Rc} {r : Rc} (O : LOk L) (hr : r ∈ L) (ha : r.alive = false) : dropL r.key L = L.filter fun q => decide (q.num ≠ r.num) := by
  unfold dropL
  refine List.filter_congr fun q hq => ?_
  by_cases e : q = r
  · subst e; simp [ha]
  · have h1 : q.num ≠ r.num := fun q' => e (nodup_inj _ O.nums hq hr q')
    have h2 : q.key ≠ r.key := fun q' => e (nodup_inj _ O.keys hq hr q')
    simp [h1, h2]
theorem drop_none {L : List Rc} {k : Tu} (h : ∀ r ∈ L, r.key = k → r.alive = true) : dropL k L = L := List.filter_eq_self.mpr fun r hr => by
  by_cases e : r.key = k
  · simp [h r hr e]
  · simp [e]
theorem alive_none {L : List Rc} {k : Tu} (h : ∀ r ∈ L, r.key ≠ k) : aliveL L k = false := List.any_eq_false.mpr fun r hr => by simp [h r hr]
theorem alive_of {L : List Rc} {r : Rc} (O : LOk L) (hr : r ∈ L) : aliveL L r.key = r.alive := by
  cases ha : r.alive with
  | true => exact List.any_eq_true.mpr ⟨r, hr, by simp [ha]⟩
  | false =>
    refine List.any_eq_false.mpr fun q hq => ?_
    by_cases e : q = r
    · subst e; simp [ha]
    · have h2 : q.key ≠ r.key := fun q' => e (nodup_inj _ O.keys hq hr q')
      simp [h2]
theorem inv_sa (c : Tu) : (inv c).sa = c.da := by unfold inv; split <;> rfl

theorem d_is_used : Does tab 60 fd_is_used.1 b_is_used.1 P_is_used := by
  rintro vs σ K ⟨B, L, me, o, r, st, c, rfl, hd, hbig, W, hme, hK⟩
  refine ⟨rfl, ?_⟩
  have hme : σ[me]? = some (.inst 122 (talkAs 7 (tv o) (tv r) 0 st)) := hme
  walk_at "sw"
  refine ⟨c, rfl, hd, ?_⟩
  walk_at "sw"
  first | refine oP_of hme ?_ | rw [hme]
  walk_at "sw"
  refine ⟨B, L, inv c, rfl, by rw [inv_sa]; exact hbig.2, W, fun hx => ?_, fun q hq e ha => ?_, fun q hq e ha σ' W' A' => ?_⟩
  · walk_at "sw"
    have hK := hK σ (by rw [drop_none fun r hr e => absurd e (hx r hr)]; exact W) (Ag.refl _ _)
    rw [alive_none hx] at hK
    exact hK
  · have hK := hK σ (by rw [drop_none fun r hr e' => by rw [nodup_inj _ W.keys hr hq (e'.trans e.symm)]; exact ha]; exact W) (Ag.refl _ _)
    rw [← e, alive_of W.ok hq, ha] at hK
    walk_at "sw"
    first | refine oP_of (W.each q hq) ?_ | rw [W.each q hq]
    walk_at "sw"
    first | refine oP_of hme ?_ | rw [hme]
    walk_at "sw"
    have hlow := W.low q hq
    rw [show (!(PyData.int q.num).eqv (PyData.int 7)) = true by
      first | refine oP_of eqv_int ?_ | rw [eqv_int]
      have : ¬ q.num = 7 := by omega
      simp [this]]
    exact hK
  · walk_at "sw"
    have hK := hK σ' (by rw [← e, drop_key W.ok hq ha]; exact W') A'
    rw [← e, alive_of W.ok hq, ha] at hK
    exact hK
end

section
open PySem PySem.W
open scoped Classical

theorem d_keeps_port : Does tab 76 fd_keeps_port.1 b_keeps_port.1 P_keeps_port := by
  rintro vs σ K ⟨B, L, me, o, r, st, t, src, nf, q, rfl, hd, hbig, W, hme, hK⟩
  refine ⟨rfl, ?_⟩
  obtain ⟨lohi, ports, net⟩ := q
  cases ports with
  | none =>
    walk_at "sw"
    refine ⟨B, L, me, o, r, st, t, rfl, hd, hbig, W, hme, fun σ' W' A' => ?_⟩
    walk_at "sw"
    exact hK σ' W' A'
  | some p =>
    walk_at "sw"
    refine ⟨_, _, _, rfl, ?_⟩
    cases hf : fits t src (some p) with
    | false =>
      have hK := hK σ (by simp only [hf]; exact W) (Ag.refl _ _)
      simp only [hf, Bool.false_and] at hK
      walk_at "sw"
      exact hK
    | true =>
      walk_at "sw"
      refine ifB_of (fun h => ?_) (fun h => ?_)
      · rw [eqv_int] at h
        have e : sure ⟨lohi, some p, net⟩ = true := h
        have hK := hK σ (by simp only [hf, e]; exact W) (Ag.refl _ _)
        simp only [hf, e, Bool.true_and, Bool.true_or] at hK
        walk_at "sw"
        exact hK
      · rw [eqv_int] at h
        have e : sure ⟨lohi, some p, net⟩ = false := h
        simp only [hf, e, Bool.true_and, Bool.false_or] at hK
        walk_at "sw"
        refine ⟨B, L, me, o, r, st, t, rfl, hd, hbig, W, hme, fun σ' W' A' => ?_⟩
        walk_at "sw"
        exact hK σ' W' A'

theorem loop_ind {r : Rec} {t : Expr} {body : List Stmt} {still : SH → Prop} {K : KS} (J : List V → Loc → SH → Prop) (h0 : ∀ ρ σ, J [] ρ σ → still σ ∧ K .next ρ σ)
    (h1 : ∀ v rest ρ σ (G : Loc → SH → Prop), (∀ ρ' σ', J rest ρ' σ' → G ρ' σ') → J (v :: rest) ρ σ → still σ ∧ asgW r t v ρ σ fun ρ1 σ1 => exs r body ρ1 σ1 (loopK G K)) : ∀ vs ρ σ, J vs ρ σ → loopW r t body still vs ρ σ K
  | [], ρ, σ, h => h0 ρ σ h
  | v :: rest, ρ, σ, h => h1 v rest ρ σ (fun ρ σ => loopW r t body still rest ρ σ K) (fun ρ σ q => loop_ind J h0 h1 rest ρ σ q) h
theorem intRow_map : ∀ n, intRow n = (List.range n).map fun (k : Nat) => V.int k
  | 0 => rfl
  | n + 1 => by rw [intRow, intRow_map n, List.range_succ, List.map_append]; rfl
theorem dom_setP {t : Tu} {src : Bool} {p : Int} (h : Dom t) : Dom (setP t src p) := by
  obtain ⟨nf, pr, sa, sp, da, dp⟩ := t
  unfold setP
  cases hp : (src || ping ⟨nf, pr, sa, sp, da, dp⟩) with
  | true => exact h
  | false =>
    intro q
    have q : ping ⟨nf, pr, sa, sp, da, dp⟩ = true := q
    rw [q, Bool.or_true] at hp
    cases hp
theorem big_setP {t : Tu} {src : Bool} {p : Int} (h : Big t) : Big (setP t src p) := by
  unfold setP; split <;> exact h
noncomputable def rowOf (t : Tu) (src : Bool) (lo hi : Int) (k : Nat) : Tu × Bool := (setP t src (lo + ((prt t src - lo) % (hi - lo + 1) + k) % (hi - lo + 1)), false)
theorem drop_alive {L : List Rc} {k : Tu} (O : LOk L) (h : aliveL L k = true) : dropL k L = L := by
  obtain ⟨r, hr, e⟩ := List.any_eq_true.mp h
  rw [Bool.and_eq_true, decide_eq_true_eq] at e
  exact drop_none fun q hq e' => by rw [nodup_inj _ O.keys hq hr (e'.trans e.1.symm)]; exact e.2

theorem me_foot {σ : SH} {me : Nat} {o r : Tu} {st : Int} {B : Bk} {L : List Rc} (h : MeW σ me o r st) (W : BookW σ B L) : me ∉ foot B L := by
  have h : σ[me]? = some (.inst 122 (talkAs 7 (tv o) (tv r) 0 st)) := h
  obtain ⟨trk, ex, hb, hex, hpn⟩ := W.book
  intro hm
  simp only [foot, List.mem_cons, List.mem_map] at hm
  rcases hm with e | e | e | ⟨q, hq, e⟩
  · exact ne_of h hb (fun q => nomatch q) e
  · exact ne_of h W.table (fun q => nomatch q) e
  · exact ne_of h W.talks (fun q => nomatch q) e
  · refine ne_of h (W.each q hq) (fun z => ?_) e.symm
    injection z with e1 e2
    have := congrArg (List.lookup ("number" : Str)) e2
    have := V.int.inj (Option.some.inj this)
    have := (W.low q hq).1
    omega

theorem if_min (a b : Int) : (if b < a then b else a) = min a b := by
  by_cases h : b < a
  · exact (if_pos h).trans (Int.min_eq_right (Int.le_of_lt h)).symm
  · exact (if_neg h).trans (Int.min_eq_left (Int.not_lt.mp h)).symm
theorem min_100 {a b : Int} (h : b ≤ 100) : (min a b).toNat ≤ 100 := Int.toNat_le.mpr (Int.le_trans (Int.min_le_right a b) h)
theorem asg_name {r : Rec} {x : Str} {p : Pos} {v : V} {ρ : Loc} {σ : SH} {K : Loc → SH → Prop} (h : isLoc ρ x = true) (hK : K (ρ.set x v) σ) : asgW r (.Name x p) v ρ σ K := ck_of h hK
noncomputable def fpR (b me : Nat) (t : Tu) (src : Bool) (lo hi : Int) (last : Tu) (sp : List (Str × V)) : Loc := ⟨fd_free_port.1.scope, (nsOf fd_free_port.1).zip [.ref b, .ref me, tv t, mv src, pv (some (lo, hi)), .bool false, .int 5] ++ [(("low" : Str), V.int lo), (("high" : Str), V.int hi), (("many" : Str), V.int (hi - lo + 1)), (("begin" : Str), V.int ((prt t src - lo) % (hi - lo + 1))), (("tried" : Str), tv last)] ++ sp⟩
/-- what holds between two turns of free_port's loop -/
inductive FpJ (B : Bk) (L : List Rc) (me : Nat) (o r : Tu) (st : Int) (t : Tu) (src : Bool) (lo hi : Int) (P : Tu × Bool) (σ : SH) (vs : List V) (ρ : Loc) (σ' : SH) : Prop
  | mk (ks : List Nat) (last : Tu) (sp : List (Str × V)) (e : vs = ks.map (fun (k : Nat) => V.int k)) (hsp : sp = [] ∨ ∃ v, sp = [(("step" : Str), v)]) (hρ : ρ = fpR B.b me t src lo hi last sp) (W : BookW σ' B L) (hme : MeW σ' me o r st) (A : Ag (foot B L) σ σ')
      (hp : pickL (aliveL L) (ks.map (rowOf t src lo hi)) last = P)
theorem free_turn {al : Tu → Bool} {c last : Tu} {l : List (Tu × Bool)} {P : Tu × Bool} (hp : pickL al ((c, false) :: l) last = P) : (al (inv c) = false → P = (c, true)) ∧ (al (inv c) = true → pickL al l c = P) := by
  have hp : (if false = true then (c, false) else if al (inv c) = true then pickL al l c else (c, true)) = P := hp
  rw [if_neg (by decide)] at hp
  exact ⟨fun ha => by rw [← hp, ha]; rfl, fun ha => by rw [← hp, if_pos ha]⟩
theorem d_free_port : Does tab 92 fd_free_port.1 b_free_port.1 P_free_port := by
  rintro vs σ K ⟨B, L, me, o, r, st, t, src, lo, hi, rfl, hd, hbig, hl, htr, W, hme, hK⟩
  refine ⟨rfl, ?_⟩
  obtain ⟨trk, ex, hb, hex, hpn⟩ := W.book
  walk_at "sw"
  refine ⟨_, _, _, _, _, rfl, hl, ?_⟩
  walk_at "sw"
  first | refine oP_of hb ?_ | rw [hb]
  walk_at "sw"
  have hn := if_min (hi - lo + 1) B.tr
  refine ⟨⟨?_, trivial⟩, ?_⟩
  · show (intRow (if B.tr < hi - lo + 1 then B.tr else hi - lo + 1).toNat).length ≤ 1000
    rw [intRow_len, hn]; exact Nat.le_trans (min_100 htr.2) (by decide)
  obtain ⟨P, hP⟩ : ∃ P, P = pickL (aliveL L) (roundL t src lo hi B.tr) t := ⟨_, rfl⟩
  rw [← hP] at hK
  refine loop_ind (FpJ B L me o r st t src lo hi P σ) ?_ ?_ _ _ _ ?_
  · rintro ρ σ' ⟨ks, last, sp, e, hsp, rfl, W', hme', A', hp⟩
    cases ks with
    | cons => cases e
    | nil =>
      refine ⟨trivial, ?_⟩
      have hp : (last, false) = P := hp
      subst hp
      have hK := hK σ' W' A'
      rcases hsp with rfl | ⟨v, rfl⟩
      · walk_at "sw"; exact hK
      · walk_at "sw"; exact hK
  · rintro v rest ρ σ' G hG ⟨ks, last, sp, e, hsp, rfl, W', hme', A', hp⟩
    refine ⟨trivial, ?_⟩
    cases ks with
    | nil => cases e
    | cons k ks =>
      obtain ⟨rfl, rfl⟩ := List.cons.inj e
      have hd' : Dom (rowOf t src lo hi k).1 := dom_setP hd
      have hb' : Big (rowOf t src lo hi k).1 := big_setP hbig
      have ec : setP t src (lo + ((prt t src - lo) % (hi - lo + 1) + (k : Int)).fmod (hi - lo + 1)) = (rowOf t src lo hi k).1 := by
        rw [Int.fmod_eq_emod_of_nonneg _ (by omega)]; rfl
      have fin := free_turn (c := (rowOf t src lo hi k).1) hp
      clear hp hP
      generalize (rowOf t src lo hi k).1 = c at ec fin hd' hb'
      have hset : (fpR B.b me t src lo hi last sp).set ("step" : Str) (.int k) = fpR B.b me t src lo hi last [(("step" : Str), .int k)] := by rcases hsp with rfl | ⟨v, rfl⟩ <;> rfl
      refine asg_name rfl ?_
      rw [hset]
      clear hset hsp
      walk_at "sw"
      refine ⟨t, src, _, rfl, ?_⟩
      rw [ec]
      walk_at "sw"
      refine ⟨B, L, me, o, r, st, c, rfl, hd', hb', W', hme', fun σ2 W2 A2 => ?_⟩
      have hme2 : MeW σ2 me o r st := A2.2 _ _ hme' (me_foot hme' W')
      cases ha : aliveL L (inv c) with
      | true =>
        walk_at "sw"
        rw [drop_alive W.ok ha] at W2
        exact hG _ _ ⟨ks, c, [_], rfl, .inr ⟨_, rfl⟩, rfl, W2, hme2, A'.trans A2, fin.2 ha⟩
      | false =>
        walk_at "sw"
        rw [fin.1 ha] at hK
        exact hK σ2 W2 (A'.trans A2)
  · refine ⟨List.range (min (hi - lo + 1) B.tr).toNat, t, [], ?_, .inl rfl, rfl, W, hme, Ag.refl _ _, hP.symm⟩
    show intRow (if B.tr < hi - lo + 1 then B.tr else hi - lo + 1).toNat = _
    rw [hn, intRow_map]
end

section
open PySem PySem.W
open scoped Classical

theorem dom_setA {t : Tu} {src : Bool} {a : Int} (h : Dom t) : Dom (setA' t src a) := by
  unfold setA'
  split <;> exact h
theorem adr_big {t : Tu} {src : Bool} (h : Big t) : 1000 ≤ adr t src := by
  unfold adr; split
  · exact h.1
  · exact h.2
theorem new_big {t : Tu} {src : Bool} {q : Rq} (h : Big t) (hq : RqOk q) : 1000 ≤ newA t src q := by
  have := adr_big (src := src) h
  obtain ⟨lohi, ports, net⟩ := q
  cases lohi with
  | none => exact this
  | some p =>
    have := (hq.1 p.1 p.2 rfl).1
    show 1000 ≤ (if net then p.1 + adr t src % 8 else p.1)
    split <;> omega
theorem big_setA {t : Tu} {src : Bool} {a : Int} (h : Big t) (ha : 1000 ≤ a) : Big (setA' t src a) := by
  unfold setA'
  split
  · exact ⟨ha, h.2⟩
  · exact ⟨h.1, ha⟩
theorem span_le {t : Tu} {src : Bool} {q : Rq} {p : Int × Int} (h : spanP t src q = some p) : p.1 ≤ p.2 := by
  unfold spanP at h
  split at h
  · split at h
    · rename_i p' e
      cases h
      split
      · assumption
      · simp only; omega
    · split at h
      · cases h; decide
      · split at h
        · split at h
          · cases h; decide
          · split at h <;> (cases h; decide)
        · cases h
  · cases h
theorem fits_setA {t : Tu} {src : Bool} {a : Int} {p : Option (Int × Int)} : fits (setA' t src a) src p = fits t src p := by
  cases src <;> cases p <;> rfl
theorem pick_app {al : Tu → Bool} : ∀ {a b : List (Tu × Bool)} {d : Tu}, (∀ c ∈ a, c.2 = false ∧ al (inv c.1) = true) → b ≠ [] → pickL al (a ++ b) d = pickL al b d
  | [], _, _, _, _ => rfl
  | c :: a, b, d, h, hb => by
    obtain ⟨h1, h2⟩ := h c List.mem_cons_self
    obtain ⟨c, s⟩ := c
    have h1 : s = false := h1
    subst h1
    show (if false = true then _ else if al (inv c) then pickL al (a ++ b) c else _) = _
    rw [if_neg (by decide), if_pos h2, pick_app (fun c hc => h c (List.mem_cons_of_mem _ hc)) hb]
    cases b with
    | nil => exact absurd rfl hb
    | cons x b => rfl
theorem round_ne {t : Tu} {src : Bool} {lo hi tr : Int} (h : lo ≤ hi) (ht : 1 ≤ tr) : roundL t src lo hi tr ≠ [] := by
  unfold roundL
  intro e
  have := congrArg List.length e
  rw [List.length_map, List.length_range] at this
  simp only [List.length_nil] at this
  omega

noncomputable def pickR (B : Bk) (me : Nat) (t : Tu) (src : Bool) (nf : Int) (q : Rq) (x : Bool) : Loc := ⟨fd_pick.1.scope, (nsOf fd_pick.1).zip [.ref B.b, .ref me, tv t, mv src, rqv src nf q, .int 5] ++ [(("is_random" : Str), V.bool x)]⟩

theorem pick_tail {σ : SH} {K : KE} {B : Bk} {L : List Rc} {me : Nat} {o r : Tu} {st : Int} {t : Tu} {src : Bool} {nf : Int} {q : Rq} (hd : Dom t) (hbig : Big t) (hq : RqOk q) (htr : 1 ≤ B.tr ∧ B.tr ≤ 100) (W : BookW σ B L) (hme : MeW σ me o r st)
    (hK : ∀ σ', BookW σ' B (after L (pickL (aliveL L) ((if fits t src q.ports then [(setA' t src (newA t src q), sure q)] else []) ++ (match spanP (setA' t src (newA t src q)) src q with | none => [(setA' t src (newA t src q), true)] | some p => roundL (setA' t src (newA t src q)) src p.1 p.2 B.tr)) t)) → Ag (foot B L) σ σ' →
      K (tv (pickL (aliveL L) ((if fits t src q.ports then [(setA' t src (newA t src q), sure q)] else []) ++ (match spanP (setA' t src (newA t src q)) src q with | none => [(setA' t src (newA t src q), true)] | some p => roundL (setA' t src (newA t src q)) src p.1 p.2 B.tr)) t).1) σ') :
    exs (ev tab 110) (b_pick.1.drop 2) (pickR B me t src nf q false) σ (retK K) := by
  have hnew := new_big (src := src) hbig hq
  have hadr := adr_big (src := src) hbig
  walk_at "sw"
  refine ⟨_, t, src, nf, q, rfl, hq, by omega, ?_⟩
  walk_at "sw"
  refine ⟨t, src, _, rfl, ?_⟩
  have hd' : Dom (setA' t src (newA t src q)) := dom_setA hd
  have hb' : Big (setA' t src (newA t src q)) := big_setA hbig hnew
  have hfit : fits (setA' t src (newA t src q)) src q.ports = fits t src q.ports := fits_setA
  generalize setA' t src (newA t src q) = put at hd' hb' hfit hK
  walk_at "sw"
  refine ⟨B, L, me, o, r, st, put, src, nf, q, rfl, hd', hb', W, hme, fun σ1 W1 A1 => ?_⟩
  have hme1 : MeW σ1 me o r st := A1.2 _ _ hme (me_foot hme W)
  rw [hfit] at W1 ⊢
  have tail : ∀ σ2, BookW σ2 B L → MeW σ2 me o r st → Ag (foot B L) σ σ2 →
      (∀ σ', BookW σ' B (after L (pickL (aliveL L) (match spanP put src q with | none => [(put, true)] | some p => roundL put src p.1 p.2 B.tr) put)) → Ag (foot B L) σ2 σ' → K (tv (pickL (aliveL L) (match spanP put src q with | none => [(put, true)] | some p => roundL put src p.1 p.2 B.tr) put).1) σ') →
      exs (ev tab 110) (b_pick.1.drop 4) (pickR B me put src nf q false) σ2 (retK K) := by
    intro σ2 W2 hme2 A2 hK2
    walk_at "sw"
    refine ⟨put, src, nf, q, rfl, ?_⟩
    cases hs : spanP put src q with
    | none =>
      rw [hs] at hK2
      walk_at "sw"
      exact hK2 σ2 W2 (Ag.refl _ _)
    | some p =>
      rw [hs] at hK2
      have hle := span_le hs
      obtain ⟨lo, hi⟩ := p
      walk_at "sw"
      refine ⟨B, L, me, o, r, st, put, src, lo, hi, rfl, hd', hb', hle, htr, W2, hme2, fun σ' W' A' => ?_⟩
      walk_at "sw"
      exact hK2 σ' W' A'
  have hne : (match spanP put src q with | none => [(put, true)] | some p => roundL put src p.1 p.2 B.tr) ≠ [] := by
    cases hs : spanP put src q with
    | none => exact fun e => nomatch e
    | some p => exact round_ne (span_le hs) htr.1
  cases hf : fits t src q.ports with
  | false =>
    simp only [hf, Bool.false_and] at W1
    simp only [hf, Bool.false_eq_true, if_false, List.nil_append] at hK
    have hdd : ∀ d, pickL (aliveL L) (match spanP put src q with | none => [(put, true)] | some p => roundL put src p.1 p.2 B.tr) t = pickL (aliveL L) (match spanP put src q with | none => [(put, true)] | some p => roundL put src p.1 p.2 B.tr) d := fun d => by
      revert hne
      cases (match spanP put src q with | none => [(put, true)] | some p => roundL put src p.1 p.2 B.tr) with
      | nil => exact fun h => absurd rfl h
      | cons c l => exact fun _ => rfl
    rw [hdd put] at hK
    exact tail σ1 W1 hme1 A1 fun σ' W' A' => hK σ' W' (A1.trans A')
  | true =>
    simp only [hf, Bool.true_and, if_true] at W1 hK ⊢
    cases hs : sure q with
    | true =>
      have e : pickL (aliveL L) ([(put, sure q)] ++ (match spanP put src q with | none => [(put, true)] | some p => roundL put src p.1 p.2 B.tr)) t = (put, false) := by rw [hs]; rfl
      rw [e] at hK
      simp only [hs, Bool.not_true, Bool.false_eq_true, if_false] at W1
      walk_at "sw"
      exact hK σ1 W1 A1
    | false =>
      simp only [hs, Bool.not_false, if_true, Bool.false_or] at W1 hK ⊢
      cases ha : aliveL L (inv put) with
      | true =>
        rw [drop_alive W.ok ha] at W1
        rw [pick_app (a := [(put, false)]) (fun c hc => by obtain rfl := List.mem_singleton.mp hc; exact ⟨rfl, ha⟩) hne] at hK
        have hdd : ∀ d, pickL (aliveL L) (match spanP put src q with | none => [(put, true)] | some p => roundL put src p.1 p.2 B.tr) t = pickL (aliveL L) (match spanP put src q with | none => [(put, true)] | some p => roundL put src p.1 p.2 B.tr) d := fun d => by
          revert hne
          cases (match spanP put src q with | none => [(put, true)] | some p => roundL put src p.1 p.2 B.tr) with
          | nil => exact fun h => absurd rfl h
          | cons c l => exact fun _ => rfl
        rw [hdd put] at hK
        exact tail σ1 W1 hme1 A1 fun σ' W' A' => hK σ' W' (A1.trans A')
      | false =>
        have e : pickL (aliveL L) ([(put, false)] ++ (match spanP put src q with | none => [(put, true)] | some p => roundL put src p.1 p.2 B.tr)) t = (put, true) := by
          show (if false = true then _ else if aliveL L (inv put) then _ else _) = _
          rw [if_neg (by decide), ha]; rfl
        rw [e] at hK
        walk_at "sw"
        exact hK σ1 W1 A1
theorem wait_split (t : Tu) (src : Bool) (q : Rq) (tr : Int) : waitL t src q tr = (if src && inA t src q then [(t, false)] else []) ++ ((if fits t src q.ports then [(setA' t src (newA t src q), sure q)] else []) ++
    (match spanP (setA' t src (newA t src q)) src q with | none => [(setA' t src (newA t src q), true)] | some p => roundL (setA' t src (newA t src q)) src p.1 p.2 tr)) := by
  unfold waitL; exact List.append_assoc _ _ _
theorem wait_ne {t : Tu} {src : Bool} {q : Rq} {tr : Int} (h : 1 ≤ tr) : ((if fits t src q.ports then [(setA' t src (newA t src q), sure q)] else []) ++
    (match spanP (setA' t src (newA t src q)) src q with | none => [(setA' t src (newA t src q), true)] | some p => roundL (setA' t src (newA t src q)) src p.1 p.2 tr)) ≠ [] := by
  intro e
  have e := (List.append_eq_nil_iff.mp e).2
  cases hs : spanP (setA' t src (newA t src q)) src q with
  | none => rw [hs] at e; cases e
  | some p => rw [hs] at e; exact round_ne (span_le hs) h e

theorem d_pick : Does tab 110 fd_pick.1 b_pick.1 P_pick := by
  rintro vs σ K ⟨B, L, me, o, r, st, t, src, nf, q, rfl, hd, hbig, hq, htr, W, hme, hK⟩
  refine ⟨rfl, ?_⟩
  rw [wait_split] at hK
  have tail : (src && inA t src q) = false → exs (ev tab 110) (b_pick.1.drop 2) (pickR B me t src nf q false) σ (retK K) := fun h => by
    rw [h] at hK
    exact pick_tail hd hbig hq htr W hme hK
  have tail2 : ∀ σ1, (src && inA t src q) = true → aliveL L (inv t) = true → BookW σ1 B L → Ag (foot B L) σ σ1 → MeW σ1 me o r st → exs (ev tab 110) (b_pick.1.drop 2) (pickR B me t src nf q false) σ1 (retK K) := fun σ1 h ha W1 A1 hme1 => by
    rw [h, if_pos rfl, pick_app (a := [(t, false)]) (fun c hc => by obtain rfl := List.mem_singleton.mp hc; exact ⟨rfl, ha⟩) (wait_ne htr.1)] at hK
    exact pick_tail hd hbig hq htr W1 hme1 fun σ' W' A' => hK σ' W' (A1.trans A')
  have fin : ∀ σ1, (src && inA t src q) = true → aliveL L (inv t) = false → BookW σ1 B (dropL (inv t) L) → Ag (foot B L) σ σ1 → K (tv t) σ1 := fun σ1 h ha W1 A1 => by
    rw [h, if_pos rfl] at hK
    have e : ∀ X, pickL (aliveL L) ([(t, false)] ++ X) t = (t, true) := fun X => by
      show (if false = true then _ else if aliveL L (inv t) then _ else _) = _
      rw [if_neg (by decide), ha]; rfl
    rw [e] at hK
    exact hK σ1 W1 A1
  cases src with
  | false =>
    have tail := tail rfl
    obtain ⟨lohi, ports, net⟩ := q
    cases net
    all_goals
      walk_at "sw"
      repeat (replace tail := And.right tail)
      exact tail
  | true =>
    have main : ∀ (G : Prop), True := fun _ => trivial
    cases hi : inA t true q with
    | false =>
      have tail := tail hi
      obtain ⟨lohi, ports, net⟩ := q
      cases net
      all_goals
        walk_at "sw"
        refine ⟨_, _, _, _, rfl, ?_⟩
        first | refine oP_of hi ?_ | rw [hi]
        exact tail
    | true =>
      have tail2 := fun σ1 => tail2 σ1 hi
      obtain ⟨lohi, ports, net⟩ := q
      cases net
      all_goals
        walk_at "sw"
        refine ⟨_, _, _, _, rfl, ?_⟩
        first | refine oP_of hi ?_ | rw [hi]
        walk_at "sw"
        refine ⟨B, L, me, o, r, st, t, rfl, hd, hbig, W, hme, fun σ1 W1 A1 => ?_⟩
        have hme1 : MeW σ1 me o r st := A1.2 _ _ hme (me_foot hme W)
        cases ha : aliveL L (inv t) with
        | true =>
          rw [drop_alive W.ok ha] at W1
          exact tail2 σ1 ha W1 A1 hme1
        | false =>
          walk_at "sw"
          exact fin σ1 hi ha W1 A1
end

section
open PySem PySem.W
open scoped Classical

theorem ping_inv (t : Tu) : ping (inv t) = ping t := by unfold inv; split <;> rfl
theorem dom_inv {t : Tu} (h : Dom t) : Dom (inv t) := by
  intro hp
  rw [ping_inv] at hp
  have h := h hp
  unfold inv
  rw [if_pos hp]
  obtain ⟨nf, pr, sa, sp, da, dp⟩ := t
  rcases h with ⟨h1, h2 | h2⟩ | ⟨h1, h2 | h2⟩
  · exact .inl ⟨h1, .inr (by show flip dp = 3; rw [show dp = 2051 from h2]; rfl)⟩
  · exact .inl ⟨h1, .inl (by show flip dp = 2051; rw [show dp = 3 from h2]; rfl)⟩
  · exact .inr ⟨h1, .inr (by show flip dp = 33027; rw [show dp = 32771 from h2]; rfl)⟩
  · exact .inr ⟨h1, .inl (by show flip dp = 32771; rw [show dp = 33027 from h2]; rfl)⟩
theorem inv_inv {t : Tu} (h : Dom t) : inv (inv t) = t := by
  cases hp : ping t with
  | false =>
    have e : inv t = ⟨t.nf, t.pr, t.da, t.dp, t.sa, t.sp⟩ := by unfold inv; rw [hp]; rfl
    have hp2 : ping (inv t) = false := by rw [ping_inv, hp]
    rw [e] at hp2 ⊢
    unfold inv
    first | refine oP_of hp2 ?_ | rw [hp2]
    rfl
  | true =>
    have e : inv t = ⟨t.nf, t.pr, t.da, t.sp, t.sa, flip t.dp⟩ := by unfold inv; rw [hp]; rfl
    have hp2 : ping (inv t) = true := by rw [ping_inv, hp]
    have h := h hp
    rw [e] at hp2 ⊢
    unfold inv
    first | refine oP_of hp2 ?_ | rw [hp2]
    obtain ⟨nf, pr, sa, sp, da, dp⟩ := t
    show Tu.mk nf pr sa sp da (flip (flip dp)) = _
    have : flip (flip dp) = dp := by
      rcases h with ⟨_, h2 | h2⟩ | ⟨_, h2 | h2⟩ <;> (have h2 : dp = _ := h2; subst h2; rfl)
    first | refine oP_of this ?_ | rw [this]
theorem pick_mem {al : Tu → Bool} : ∀ {ws : List (Tu × Bool)} {d : Tu}, (pickL al ws d).1 = d ∨ ∃ c ∈ ws, (pickL al ws d).1 = c.1
  | [], _ => .inl rfl
  | (c, s) :: r, d => by
    have e : pickL al ((c, s) :: r) d = (if s then (c, false) else if al (inv c) then pickL al r c else (c, true)) := rfl
    first | refine oP_of e ?_ | rw [e]
    split
    · exact .inr ⟨(c, s), List.mem_cons_self, rfl⟩
    · split
      · rcases pick_mem (al := al) (ws := r) (d := c) with h | ⟨x, hx, h⟩
        · exact .inr ⟨(c, s), List.mem_cons_self, h⟩
        · exact .inr ⟨x, List.mem_cons_of_mem _ hx, h⟩
      · exact .inr ⟨(c, s), List.mem_cons_self, rfl⟩
theorem wait_all {t : Tu} {src : Bool} {q : Rq} {tr : Int} {P : Tu → Prop} (h1 : P t) (h2 : P (setA' t src (newA t src q))) (h3 : ∀ p, P (setP (setA' t src (newA t src q)) src p)) : ∀ c ∈ waitL t src q tr, P c.1 := by
  intro c hc
  rw [wait_split] at hc
  rcases List.mem_append.mp hc with hc | hc
  · split at hc
    · obtain rfl := List.mem_singleton.mp hc; exact h1
    · cases hc
  · rcases List.mem_append.mp hc with hc | hc
    · split at hc
      · obtain rfl := List.mem_singleton.mp hc; exact h2
      · cases hc
    · split at hc
      · obtain rfl := List.mem_singleton.mp hc; exact h2
      · obtain ⟨k, _, rfl⟩ := List.mem_map.mp hc
        exact h3 _
theorem wait_dom {t : Tu} {src : Bool} {q : Rq} {tr : Int} (hd : Dom t) (hb : Big t) (hq : RqOk q) : ∀ c ∈ waitL t src q tr, Dom c.1 ∧ Big c.1 :=
  wait_all (P := fun c => Dom c ∧ Big c) ⟨hd, hb⟩ ⟨dom_setA hd, big_setA hb (new_big hb hq)⟩ fun p => ⟨dom_setP (dom_setA hd), big_setP (big_setA hb (new_big hb hq))⟩
theorem pick_dom {al : Tu → Bool} {t : Tu} {src : Bool} {q : Rq} {tr : Int} (hd : Dom t) (hb : Big t) (hq : RqOk q) : Dom (pickL al (waitL t src q tr) t).1 ∧ Big (pickL al (waitL t src q tr) t).1 := by
  rcases pick_mem (al := al) (ws := waitL t src q tr) (d := t) with h | ⟨c, hc, h⟩
  · rw [h]; exact ⟨hd, hb⟩
  · rw [h]; exact wait_dom hd hb hq c hc

theorem eqv_tv {a b : Tu} : PyData.eqv (.tuple [.int a.nf, .int a.pr, .int a.sa, .int a.sp, .int a.da, .int a.dp]) (.tuple [.int b.nf, .int b.pr, .int b.sa, .int b.sp, .int b.da, .int b.dp]) = decide (a = b) := by
  rw [Bool.eq_iff_iff]
  simp only [PyData.eqv, PyData.eqvAll, Bool.and_true, Bool.and_eq_true, beq_iff_eq, decide_eq_true_eq]
  constructor
  · rintro ⟨h1, h2, h3, h4, h5, h6⟩
    obtain ⟨a1, a2, a3, a4, a5, a6⟩ := a
    obtain ⟨b1, b2, b3, b4, b5, b6⟩ := b
    simp only at h1 h2 h3 h4 h5 h6
    subst h1 h2 h3 h4 h5 h6
    rfl
  · rintro rfl
    exact ⟨rfl, rfl, rfl, rfl, rfl, rfl⟩

theorem book_me {σ : SH} {B : Bk} {L : List Rc} {me : Nat} {o r : Tu} {st : Int} {as : List (Str × V)} (W : BookW σ B L) (hme : σ[me]? = some (.inst 122 (talkAs 7 (tv o) (tv r) 0 st))) : BookW (σ.set me (.inst 122 as)) B L :=
  W.ag (Ag.set σ me _) fun i hi => by
    obtain rfl := List.mem_singleton.mp hi
    exact ⟨me_foot hme W, ne_of hme W.flows (fun q => nomatch q), fun o' h' e => by rw [hme] at h'; cases h'; cases e⟩
theorem d_setup : Does tab 126 fd_setup.1 b_setup.1 P_setup := by
  rintro vs σ K ⟨B, L, me, o, t, st, src, nf, q, rfl, hd, hbig, hq, htr, W, hme, hK⟩
  refine ⟨rfl, ?_⟩
  have hme0 : σ[me]? = some (.inst 122 (talkAs 7 (tv o) (tv (inv t)) 0 st)) := hme
  walk_at "sw"
  first | refine oP_of hme0 ?_ | rw [hme0]
  walk_at "sw"
  refine ⟨inv t, rfl, dom_inv hd, ?_⟩
  first | refine oP_of (inv_inv hd) ?_ | rw [inv_inv hd]
  walk_at "sw"
  refine ⟨B, L, me, o, inv t, st, t, src, nf, q, rfl, hd, hbig, hq, htr, W, hme, fun σ1 W1 A1 => ?_⟩
  have hpd := (pick_dom (al := aliveL L) (src := src) (tr := B.tr) hd hbig hq).1
  have hme1 : σ1[me]? = some (.inst 122 (talkAs 7 (tv o) (tv (inv t)) 0 st)) := A1.2 _ _ hme (me_foot hme W)
  have hmf := me_foot hme1 W1
  generalize pickL (aliveL L) (waitL t src q B.tr) t = pp at hpd hK W1 hmf
  obtain ⟨picked, m⟩ := pp
  walk_at "sw"
  refine ifB_of (fun h => ?_) (fun h => ?_)
  · rw [eqv_tv] at h
    walk_at "sw"
    refine ⟨picked, rfl, hpd, ?_⟩
    walk_at "sw"
    first | refine oP_of hme1 ?_ | rw [hme1]
    walk_at "sw"
    have hne : picked ≠ t := by
      intro e
      rw [e] at h
      simp at h
    generalize hσ2 : σ1.set me (.inst 122 (putA "reply" (tv (inv picked)) (talkAs 7 (tv o) (tv (inv t)) 0 st))) = σ2
    have hme2 : σ2[me]? = some (.inst 122 (talkAs 7 (tv o) (tv (inv picked)) 0 st)) := set_eq' hσ2 hme1
    have W2 : BookW σ2 B (after L (picked, m)) := by rw [← hσ2]; exact book_me W1 hme1
    have A2 : Ag (me :: foot B L) σ σ2 := by rw [← hσ2]; exact (A1.mono fun i hi => List.mem_cons_of_mem _ hi).trans ((Ag.set _ _ _).mono (by simp))
    have h1 := fun σ' W' M' A' => hK σ' W' M' A'
    have hd' : decide ((picked, m).1 ≠ t) = true := decide_eq_true hne
    rw [hd'] at hK
    first | refine oP_of hme2 ?_ | rw [hme2]
    walk_at "sw"
    have two : ∀ (x : Int) σ3, x = Builtin.bitOr st (if src then 16 else 32) → σ3 = σ2.set me (.inst 122 (putA "status" (.int x) (talkAs 7 (tv o) (tv (inv picked)) 0 st))) →
        ∀ y : Int, y = (if src then 128 else 256) → K .none (σ3.set me (.inst 122 (putA "status" (.int (Builtin.bitOr x y)) (talkAs 7 (tv o) (tv (inv picked)) 0 x)))) := by
      rintro x σ3 hx rfl y rfl
      have hme3 : (σ2.set me (.inst 122 (putA "status" (.int x) (talkAs 7 (tv o) (tv (inv picked)) 0 st))))[me]? = some (.inst 122 (talkAs 7 (tv o) (tv (inv picked)) 0 x)) := get_set_eq hme2
      have W3 : BookW (σ2.set me (.inst 122 (putA "status" (.int x) (talkAs 7 (tv o) (tv (inv picked)) 0 st)))) B (after L (picked, m)) := book_me W2 hme2
      refine hK _ (book_me W3 hme3) ?_ ((A2.trans ((Ag.set _ _ _).mono (by simp))).trans ((Ag.set _ _ _).mono (by simp)))
      subst hx
      exact get_set_eq hme3
    have hs3 : ∀ x : Int, (σ2.set me (.inst 122 (putA "status" (.int x) (talkAs 7 (tv o) (tv (inv picked)) 0 st))))[me]? = some (.inst 122 (talkAs 7 (tv o) (tv (inv picked)) 0 x)) := fun x => get_set_eq hme2
    cases src with
    | true =>
      walk_at "sw"
      first | refine oP_of hme2 ?_ | rw [hme2]
      walk_at "sw"
      generalize hσ3 : σ2.set me (.inst 122 (putA "status" (.int (Builtin.bitOr st 16)) (talkAs 7 (tv o) (tv (inv picked)) 0 st))) = σ3
      have hme3 : σ3[me]? = _ := hσ3 ▸ hs3 (Builtin.bitOr st 16)
      first | refine oP_of hme3 ?_ | rw [hme3]
      walk_at "sw"
      refine ⟨true, rfl, ?_⟩
      walk_at "sw"
      first | refine oP_of hme3 ?_ | rw [hme3]
      walk_at "sw"
      exact two _ σ3 rfl hσ3.symm _ rfl
    | false =>
      walk_at "sw"
      first | refine oP_of hme2 ?_ | rw [hme2]
      walk_at "sw"
      generalize hσ3 : σ2.set me (.inst 122 (putA "status" (.int (Builtin.bitOr st 32)) (talkAs 7 (tv o) (tv (inv picked)) 0 st))) = σ3
      have hme3 : σ3[me]? = _ := hσ3 ▸ hs3 (Builtin.bitOr st 32)
      first | refine oP_of hme3 ?_ | rw [hme3]
      walk_at "sw"
      refine ⟨false, rfl, ?_⟩
      walk_at "sw"
      first | refine oP_of hme3 ?_ | rw [hme3]
      walk_at "sw"
      exact two _ σ3 rfl hσ3.symm _ rfl
  · rw [eqv_tv] at h
    have he : picked = t := by simpa using h
    subst he
    have hd' : decide ((picked, m).1 ≠ picked) = false := by simp
    rw [hd'] at hK
    walk_at "sw"
    first | refine oP_of hme1 ?_ | rw [hme1]
    walk_at "sw"
    refine ⟨src, rfl, ?_⟩
    walk_at "sw"
    first | refine oP_of hme1 ?_ | rw [hme1]
    walk_at "sw"
    exact hK _ (book_me W1 hme1) (get_set_eq hme1) ((A1.mono fun i hi => List.mem_cons_of_mem _ hi).trans ((Ag.set _ _ _).mono (by simp)))
end

section
open PySem PySem.W
open scoped Classical

theorem rq_none : RqOk ⟨none, none, false⟩ := ⟨fun _ _ h => (nomatch h), fun _ _ h => (nomatch h)⟩
theorem d_null_bind : Does tab 142 fd_null_bind.1 b_null_bind.1 P_null_bind := by
  rintro vs σ K ⟨B, L, me, o, t, st, src, rfl, hd, hbig, htr, W, hme, hK⟩
  refine ⟨rfl, ?_⟩
  have hme0 : σ[me]? = some (.inst 122 (talkAs 7 (tv o) (tv (inv t)) 0 st)) := hme
  cases src
  all_goals
    walk_at "sw"
    first | refine oP_of hme0 ?_ | rw [hme0]
    walk_at "sw"
    refine ⟨B, L, me, o, t, st, _, o.nf, ⟨none, none, false⟩, rfl, hd, hbig, rq_none, htr, W, hme, fun σ1 W1 M1 A1 => ?_⟩
    walk_at "sw"
    exact hK σ1 W1 M1 A1

theorem eqv_pair {a b c d : Int} : PyData.eqv (.tuple [.int a, .int b]) (.tuple [.int c, .int d]) = (decide (a = c) && decide (b = d)) := by
  simp only [PyData.eqv, PyData.eqvAll, Bool.and_true]
  rfl
theorem d_l_is_ping : Does tab 12 fd_law_is_ping.1 b_law_is_ping.1 P_l_is_ping := by
  rintro vs σ K ⟨t, rfl, hK⟩
  refine ⟨rfl, ?_⟩
  walk_at "sw"
  have e : ping t = ([PyData.tuple [.int 2, .int 1], PyData.tuple [.int 10, .int 58]].any fun e => PyData.eqv e (PyData.tuple [.int t.nf, .int t.pr])) := by
    simp only [List.any_cons, List.any_nil, eqv_pair, Bool.or_false, ping, pingB]
    congr 1
    · congr 1 <;> (congr 1; exact propext eq_comm)
    · congr 1 <;> (congr 1; exact propext eq_comm)
  rw [e] at hK
  exact hK
theorem d_l_places : Does tab 28 fd_law_places.1 b_law_places.1 P_l_places := by
  rintro vs σ K ⟨t, src, rfl, hK⟩
  refine ⟨rfl, ?_⟩
  cases src with
  | true => walk_at "sw"; exact hK
  | false =>
    walk_at "sw"
    refine ⟨t, rfl, ?_⟩
    cases hp : ping t with
    | true =>
      walk_at "sw"
      simp only [spotI, placeI, hp] at hK
      exact hK
    | false =>
      walk_at "sw"
      simp only [spotI, placeI, hp] at hK
      exact hK
theorem d_l_with : Does tab 12 fd_law_with.1 b_law_with.1 P_l_with := by
  rintro vs σ K ⟨t, n, place, t', rfl, h, hK⟩
  refine ⟨rfl, ?_⟩
  rcases h with ⟨rfl, rfl⟩ | ⟨rfl, rfl⟩ | ⟨rfl, rfl⟩ | ⟨rfl, rfl⟩
  all_goals (walk_at "sw"; exact hK)
theorem d_l_answer : Does tab 28 fd_law_answer.1 b_law_answer.1 P_l_answer := by
  rintro vs σ K ⟨t, rfl, hd, hK⟩
  refine ⟨rfl, ?_⟩
  walk_at "sw"
  refine ⟨t, rfl, ?_⟩
  cases hp : ping t with
  | false =>
    have e : inv t = ⟨t.nf, t.pr, t.da, t.dp, t.sa, t.sp⟩ := by unfold inv; rw [hp]; rfl
    rw [e] at hK
    walk_at "sw"
    exact hK σ (Ag.refl _ _)
  | true =>
    have hd := hd hp
    have e : inv t = ⟨t.nf, t.pr, t.da, t.sp, t.sa, flip t.dp⟩ := by unfold inv; rw [hp]; rfl
    rw [e] at hK
    obtain ⟨nf, pr, sa, sp, da, dp⟩ := t
    have hd : (nf = 2 ∧ (dp = 2051 ∨ dp = 3)) ∨ (nf = 10 ∧ (dp = 32771 ∨ dp = 33027)) := hd
    have app : ∀ o : SO, Ag [] σ (σ ++ [o]) := fun o => Ag.app _ _ _
    have kf : ∀ i : Int, KeyFits (.int i) (dictOfPairs [] [(V.int 8, V.int 0), (V.int 0, V.int 8), (V.int 128, V.int 129), (V.int 129, V.int 128)]) := fun i => ⟨fun e : 1 = 0 => (nomatch e), by
      show ∀ p ∈ dictOfPairs [] [(V.int 8, V.int 0), (V.int 0, V.int 8), (V.int 128, V.int 129), (V.int 129, V.int 128)], keySort p.1 = 1
      decide +kernel⟩
    rcases hd with ⟨rfl, rfl | rfl⟩ | ⟨rfl, rfl | rfl⟩
    all_goals
      walk_at "sw"
      first | refine oP_of get_new ?_ | rw [get_new]
      walk_at "sw"
      exact hK _ (app _)

theorem pys_ints : ∀ ns : List Int, V.pys (ns.map .int) = some (ns.map PyData.int)
  | [] => rfl
  | n :: ns => by
    show (match V.py (.int n), V.pys (ns.map .int) with | some d, some ds => some (d :: ds) | _, _ => none) = _
    rw [pys_ints ns]; rfl
theorem pyOf_ints {σ : SH} {k : Nat} {ns : List Int} (h : σ[k]? = some (.list (ns.map .int))) : pyOf σ (.ref k) = some (.list (ns.map .int)) := by
  unfold pyOf; dsimp only; rw [h]; dsimp only; rw [pys_ints]; rfl
theorem sh1_ints : ∀ ns : List Int, (ns.map PyData.int).all sh1 = true
  | [] => rfl
  | _ :: ns => sh1_ints ns
theorem shaped_ints (ns : List Int) : sh3 (.list (ns.map .int)) = true := by
  unfold sh3; dsimp only
  rw [List.all_eq_true]
  intro d hd
  have := List.all_eq_true.mp (sh1_ints ns) d hd
  obtain ⟨i, _, rfl⟩ := List.mem_map.mp hd
  rfl
theorem fits_pen (s : Str) (r : Nat) (x : V) : KeyFits (.str s) [(V.str (Str.ofString "row"), V.ref r), (V.str (Str.ofString "rest"), x)] := ⟨fun e : 2 = 0 => (nomatch e), fun p hp => by
  simp only [List.mem_cons, List.not_mem_nil, or_false] at hp
  rcases hp with rfl | rfl <;> rfl⟩

theorem d_draw : Does tab 12 fd_law_draw.1 b_law_draw.1 P_draw := by
  rintro vs σ K ⟨p, r, many, rfl, ⟨hne, rest, row, hp, hr, hrow⟩, hm, hm2, hK⟩
  refine ⟨rfl, ?_⟩
  walk_at "sw"
  first | refine oP_of hp ?_ | rw [hp]
  walk_at "sw"
  generalize hσ1 : σ ++ [SO.list []] = σ1
  have hp1 := app' hσ1 hp
  have hr1 := app' hσ1 hr
  have hn1 : σ1[σ.length]? = some (.list (([] : List Int).map .int)) := by rw [← hσ1]; exact get_new
  have A1 : Ag [p, r] σ σ1 := by rw [← hσ1]; exact Ag.app _ _ _
  refine oP_of (pyOf_ints hr1) (oP_of (pyOf_ints hn1) ?_)
  dsimp only
  refine ck_of (c := _ ∧ _) ⟨shaped_ints _, shaped_ints _⟩ ?_
  have fin : ∀ (told : Int) (row' : List Int) σ2, Ag [p, r] σ σ2 → σ2[p]? = some (.dict [(.str "row", .ref r), (.str "rest", .int rest)]) → σ2[r]? = some (.list (row'.map .int)) → row'.length ≤ 18 →
      K (.int ((told + rest).fmod many)) (σ2.set p (.dict [(.str "row", .ref r), (.str "rest", .int (rest.fdiv many))])) := by
    intro told row' σ2 A2 hp2 hr2 hl
    rw [Int.fmod_eq_emod_of_nonneg _ (by omega)]
    refine hK _ _ (Int.emod_nonneg _ (by omega)) (Int.emod_lt_of_pos _ hm) ⟨hne, _, row', get_set_eq hp2, get_set_ne hr2 hne, hl⟩ (A2.trans ((Ag.set _ _ _).mono (by simp)))
  cases row with
  | nil =>
    walk_at "sw"
    first | refine oP_of hp1 ?_ | rw [hp1]
    walk_at "sw"
    first | refine oP_of hp1 ?_ | rw [hp1]
    walk_at "sw"
    first | refine oP_of hp1 ?_ | rw [hp1]
    walk_at "sw"
    refine ⟨⟨fits_pen _ _ _, of_decide_eq_true rfl⟩, ?_⟩
    walk_at "sw"
    exact fin 0 [] σ1 A1 hp1 hr1 (by decide)
  | cons x row =>
    walk_at "sw"
    first | refine oP_of hp1 ?_ | rw [hp1]
    walk_at "sw"
    first | refine oP_of hr1 ?_ | rw [hr1]
    walk_at "sw"
    first | refine oP_of hr1 ?_ | rw [hr1]
    walk_at "sw"
    refine ⟨by rw [List.length_cons, List.length_map]; exact Nat.le_trans hrow (by decide), ?_⟩
    generalize hσ2 : σ1.set r (.list (row.map .int)) = σ2
    have hp2 := set_ne' hσ2 hp1 hne.symm
    have hr2 : σ2[r]? = some (.list (row.map .int)) := set_eq' hσ2 hr1
    have A2 : Ag [p, r] σ σ2 := by rw [← hσ2]; exact A1.trans ((Ag.set _ _ _).mono (by simp))
    walk_at "sw"
    first | refine oP_of hp2 ?_ | rw [hp2]
    walk_at "sw"
    first | refine oP_of hp2 ?_ | rw [hp2]
    walk_at "sw"
    first | refine oP_of hp2 ?_ | rw [hp2]
    walk_at "sw"
    refine ⟨⟨fits_pen _ _ _, of_decide_eq_true rfl⟩, ?_⟩
    walk_at "sw"
    exact fin x row σ2 A2 hp2 hr2 (by have : row.length + 1 ≤ 18 := hrow; omega)
theorem d_Talk_init : Does tab 12 fd_talk_init.1 b_talk_init.1 P_Talk_init := by
  rintro vs σ K ⟨k, n, o, r, rfl, hk, hK⟩
  refine ⟨rfl, ?_⟩
  walk_at "sw"
  first | refine oP_of hk ?_ | rw [hk]
  walk_at "sw"
  repeat
    first | refine oP_of (get_set_eq hk) ?_ | rw [get_set_eq hk]
    walk_at "sw"
    rw [List.set_set]
  exact hK

noncomputable def unInt (l : List V) : List Int := l.filterMap fun v => match v with
  | .int i => some i
  | _ => none
theorem row_ex {σ : SH} {i : Nat} {l : List V} (h : σ[i]? = some (.list l)) (e : (unInt l).map .int = l) (hl : (unInt l).length ≤ 18) : ∃ row : List Int, σ[i]? = some (.list (row.map .int)) ∧ row.length ≤ 18 := ⟨unInt l, by rw [e]; exact h, hl⟩
theorem len_new {σ : SH} {o : SO} : (σ ++ [o]).length = σ.length + 1 := by simp
theorem d_rows : Does tab 12 fd_law_rows.1 b_law_rows.1 P_rows := by
  rintro vs σ K ⟨rfl, hK⟩
  refine ⟨rfl, ?_⟩
  walk_at "sw"
  refine hK _ [_, _, _, _] _ ?_ get_new rfl ?_ ?_ ?_
  · exact ((((Ag.app _ _ _).trans (Ag.app _ _ _)).trans (Ag.app _ _ _)).trans (Ag.app _ _ _)).trans (Ag.app _ _ _)
  · simp only [len_new]
    simp
    omega
  · intro i hi
    simp only [List.mem_cons, List.not_mem_nil, or_false] at hi
    rcases hi with rfl | rfl | rfl | rfl
    · exact ⟨Nat.le_refl _, row_ex (get_app (get_app (get_app (get_app get_new)))) rfl (by decide)⟩
    · exact ⟨by simp only [len_new]; omega, row_ex (get_app (get_app (get_app get_new))) rfl (by decide)⟩
    · exact ⟨by simp only [len_new]; omega, row_ex (get_app (get_app get_new)) rfl (by decide)⟩
    · exact ⟨by simp only [len_new]; omega, row_ex (get_app get_new) rfl (by decide)⟩
  · simp only [len_new, List.mem_cons, List.not_mem_nil, or_false]
    omega
theorem get_mid {σ l : SH} {a : SO} : (σ ++ a :: l)[σ.length]? = some a := by rw [List.getElem?_append_right (Nat.le_refl _), Nat.sub_self]; rfl
theorem set_mid {σ l : SH} {a b : SO} : (σ ++ a :: l).set σ.length b = σ ++ b :: l := by rw [List.set_append_right _ _ (Nat.le_refl _), Nat.sub_self]; rfl
theorem app_mid {σ l : SH} {a d : SO} : (σ ++ a :: l) ++ [d] = σ ++ a :: (l ++ [d]) := by rw [List.append_assoc]; rfl
theorem d_Book_init_walk {σ : SH} {K : KE} {tr : Int} (hK : K .none (σ ++ [.inst 144 (bookAs (bookAt σ.length tr) (σ.length + 3) (σ.length + 4)), .dict [], .dict [], .dict [], .list [], .dict []])) :
    exs (ev tab 12) b_book_init.1 ⟨fd_book_init.1.scope, (nsOf fd_book_init.1).zip [.ref σ.length, .int 64, .int 0, .int tr]⟩ (σ ++ [.inst 144 []]) (retK K) := by
  walk_at "sw"
  repeat
    first | refine oP_of get_mid ?_ | rw [get_mid]
    walk_at "sw"
    first | refine oP_of set_mid ?_ | rw [set_mid]
    try rw [app_mid]
  simp only [List.length_append, List.length_cons, List.length_nil, Nat.zero_add, Nat.add_assoc, Nat.reduceAdd]
  exact hK
end

section
open PySem PySem.W
open scoped Classical

theorem seq_pick {vs : List V} {j : Int} {K : V → Prop} (h0 : 0 ≤ j) (h1 : j < vs.length) (h : ∀ v ∈ vs, K v) : (oP (seqIndex? j vs.length) fun n => oP vs[n]? K) := by
  obtain ⟨n, rfl⟩ := Int.eq_ofNat_of_zero_le h0
  have hn : n < vs.length := by omega
  have e : seqIndex? (n : Int) vs.length = some n := by
    simp only [seqIndex?, if_neg (show ¬ (n : Int) < 0 by omega)]
    rw [if_pos (by rw [Bool.and_eq_true, decide_eq_true_eq, decide_eq_true_eq]; omega)]
    rfl
  exact oP_of e (oP_of (List.getElem?_eq_getElem hn) (h _ (List.getElem_mem hn)))

theorem tup_pick {vs : List V} {j : Int} {K : V → Prop} (h0 : 0 ≤ j) (h1 : j < vs.length) (hl : vs.length ≤ 1000) (h : ∀ v ∈ vs, K v) : ck (fit64 j = true) (oP (seqIndex? j vs.length) fun n => oP vs[n]? K) := ck_of (fit64_of h0 (by omega)) (seq_pick h0 h1 h)

theorem exs_app (r : Rec) (K : KS) (b : List Stmt) : ∀ (a : List Stmt) (ρ : Loc) (σ : SH), exs r (a ++ b) ρ σ K = exs r a ρ σ (fun f ρ1 σ1 => match f with
    | .next => exs r b ρ1 σ1 K
    | f => K f ρ1 σ1)
  | [], _, _ => rfl
  | s :: a, ρ, σ => by
    show r.s s ρ σ (fun f ρ1 σ1 => match f with
      | .next => exs r (a ++ b) ρ1 σ1 K
      | f => K f ρ1 σ1) = r.s s ρ σ (fun f ρ1 σ1 => match f with
      | .next => exs r a ρ1 σ1 (fun f ρ1 σ1 => match f with
        | .next => exs r b ρ1 σ1 K
        | f => K f ρ1 σ1)
      | f => (fun f ρ1 σ1 => match f with
        | .next => exs r b ρ1 σ1 K
        | f => K f ρ1 σ1) f ρ1 σ1)
    congr 1
    funext f ρ1 σ1
    cases f
    · exact exs_app r K b a ρ1 σ1
    · rfl
    · rfl
    · rfl
/-- a body is cut behind its first n statements; what comes then is kept out of sight -/
theorem exs_cut {r : Rec} {K : KS} {b : List Stmt} {ρ : Loc} {σ : SH} (n : Nat) (h : ∀ G : KS, (∀ ρ1 σ1, exs r (b.drop n) ρ1 σ1 K → G .next ρ1 σ1) → (∀ v ρ1 σ1, K (.ret v) ρ1 σ1 → G (.ret v) ρ1 σ1) → exs r (b.take n) ρ σ G) : exs r b ρ σ K := by
  have e := exs_app r K (b.drop n) (b.take n) ρ σ
  rw [List.take_append_drop] at e
  first | refine oP_of e ?_ | rw [e]
  exact h _ (fun _ _ q => q) fun _ _ _ q => q
/-- the locals of _law_tuple, as they come -/
noncomputable def tuR (p : Nat) (l : List (Str × V)) : Loc := ⟨fd_law_tuple.1.scope, (nsOf fd_law_tuple.1).zip [.ref p] ++ l⟩
noncomputable def tuL (nf pr : Int) : List (Str × V) := [(("nfproto" : Str), V.int nf), (("protocol" : Str), V.int pr)]
noncomputable def PrOk (nf pr : Int) : Prop := nf = 10 → pr ≠ 1
noncomputable def farI (nf : Int) : Int := if nf = 2 then 167772160 else 536939960 * 2 ^ 96
theorem farI_big (nf : Int) : 100000 ≤ farI nf := by
  unfold farI
  split <;> decide
theorem no_ping {nf pr : Int} (h1 : pr ≠ 1) (h2 : pr ≠ 58) : pingB nf pr = false := by
  unfold pingB
  rw [decide_eq_false h1, decide_eq_false h2, Bool.and_false, Bool.and_false]; rfl
theorem in_two {a b pr : Int} : ([PyData.int a, PyData.int b].any fun e => PyData.eqv e (.int pr)) = (decide (a = pr) || decide (b = pr)) := by
  show (PyData.eqv _ _ || (PyData.eqv _ _ || false)) = _
  rw [eqv_int, eqv_int, Bool.or_false]
theorem tuple_tail {σ : SH} {K : KE} {p : Nat} {nf pr src port : Int} (hnf : nf = 2 ∨ nf = 10) (hpr : PrOk nf pr) (hs : 1024 ≤ src) (h0 : 0 ≤ port) (h1 : port ≤ 65535) (hK : ∀ t, Own 3 t → K (tv t) σ) :
    exs (ev tab 28) (b_law_tuple.1.drop 5) (tuR p (tuL nf pr ++ [(("far" : Str), V.int (farI nf)), (("port" : Str), V.int port), (("source" : Str), V.int src)])) σ (retK K) := by
  have hf := farI_big nf
  walk_at "sw"
  refine ifB_of (fun h => ?_) (fun h => ?_)
  · rw [in_two] at h
    walk_at "sw"
    refine hK ⟨_, _, _, _, _, _⟩ ⟨fun q => ?_, ⟨by show 1000 + 8 * 3 ≤ src; omega, by show 1000 + 8 * 3 ≤ farI nf + 8709; omega⟩, h0, h1, of_decide_eq_true rfl, of_decide_eq_true rfl⟩
    have h := Bool.or_eq_true_iff.mp h
    rw [show ping ⟨nf, pr, src, port, farI nf + 8709, 40002⟩ = false from no_ping (fun e => by subst e; exact h.elim (fun h => nomatch h) fun h => nomatch h) (fun e => by subst e; exact h.elim (fun h => nomatch h) fun h => nomatch h)] at q
    cases q
  · walk_at "sw"
    refine ifB_of (fun h2 => ?_) (fun h2 => ?_)
    · rw [in_two] at h2
      walk_at "sw"
      have fin : ∀ d, d = (if nf = 2 then 2051 else 32771 : Int) → K (tv ⟨nf, pr, src, port, farI nf + 8709, d⟩) σ := fun d e => by
        refine hK ⟨_, _, _, _, _, _⟩ ⟨fun _ => ?_, ⟨by show 1000 + 8 * 3 ≤ src; omega, by show 1000 + 8 * 3 ≤ farI nf + 8709; omega⟩, h0, h1, ?_⟩
        · rcases hnf with rfl | rfl
          · exact .inl ⟨rfl, e⟩
          · exact .inr ⟨rfl, e⟩
        · rw [e]
          show 0 ≤ (if nf = 2 then 2051 else 32771 : Int) ∧ (if nf = 2 then 2051 else 32771 : Int) ≤ 65535
          split <;> decide
      refine ifB_of (fun h3 => ?_) (fun h3 => ?_)
      · rw [eqv_int] at h3
        walk_at "sw"
        exact fin _ (if_pos (of_decide_eq_true h3)).symm
      · rw [eqv_int] at h3
        walk_at "sw"
        exact fin _ (if_neg (of_decide_eq_false h3)).symm
    · rw [in_two] at h2
      walk_at "sw"
      refine hK ⟨_, _, _, _, _, _⟩ ⟨fun q => ?_, ⟨by show 1000 + 8 * 3 ≤ src; omega, by show 1000 + 8 * 3 ≤ farI nf + 8709; omega⟩, of_decide_eq_true rfl, of_decide_eq_true rfl, of_decide_eq_true rfl, of_decide_eq_true rfl⟩
      have h2 := Bool.or_eq_false_iff.mp h2
      rw [show ping ⟨nf, pr, src, 0, farI nf + 8709, 0⟩ = false from no_ping (fun e => of_decide_eq_false h2.1 e.symm) (fun e => of_decide_eq_false h2.2 e.symm)] at q
      cases q
theorem d_l_tuple : Does tab 28 fd_law_tuple.1 b_law_tuple.1 P_l_tuple := by
  rintro vs σ K ⟨p, r, rfl, W, hK⟩
  refine ⟨rfl, ?_⟩
  refine exs_cut 5 fun G hG _ => ?_
  have big : (536939960 : Int) * 2 ^ (96 : Int).toNat = 536939960 * 2 ^ 96 := rfl
  have far : ∀ nf pr σ2, (nf = 2 ∨ nf = 10) → PrOk nf pr → PenW σ2 p r → Ag [p, r] σ σ2 → exs (ev tab 28) ((b_law_tuple.1.take 5).drop 3) (tuR p (tuL nf pr)) σ2 G := fun nf pr σ2 hnf hpr W2 A2 => by
    refine exs_cut 1 fun G2 hG2 _ => ?_
    have next : exs (ev tab 28) (((b_law_tuple.1.take 5).drop 3).drop 1) (tuR p (tuL nf pr ++ [(("far" : Str), V.int (farI nf))])) σ2 G := by
      have hf := farI_big nf
      walk_at "sw"
      refine ⟨p, r, _, rfl, W2, by decide, by decide, fun d3 σ3 h03 h13 W3 A3 => ?_⟩
      walk_at "sw"
      refine ⟨p, r, _, rfl, W3, by decide, by decide, fun d4 σ4 h04 h14 W4 A4 => ?_⟩
      walk_at "sw"
      refine tup_pick h04 h14 (Nat.le_of_ble_eq_true rfl) ?_
      intro v hv
      obtain ⟨port, rfl, hp0, hp1⟩ : ∃ q : Int, v = .int q ∧ 0 ≤ q ∧ q ≤ 65535 := by
        simp only [List.mem_cons, List.not_mem_nil, or_false] at hv
        rcases hv with rfl | rfl | rfl | rfl | rfl | rfl <;> exact ⟨_, rfl, by decide, by decide⟩
      walk_at "sw"
      exact hG _ σ4 (tuple_tail (p := p) hnf hpr (by omega) hp0 hp1 fun t ht => hK t σ4 ht W4 ((A2.trans A3).trans A4))
    walk_at "sw"
    refine ifB_of (fun h => ?_) (fun h => ?_)
    · rw [eqv_int] at h
      walk_at "sw"
      refine hG2 _ σ2 ?_
      rw [show farI nf = 167772160 from if_pos (of_decide_eq_true h)] at next
      exact next
    · rw [eqv_int] at h
      walk_at "sw"
      refine hG2 _ σ2 ?_
      rw [show farI nf = 536939960 * 2 ^ (96 : Int).toNat from (if_neg (of_decide_eq_false h)).trans big.symm] at next
      exact next
  refine exs_cut 3 fun G3 hG3 _ => ?_
  walk_at "sw"
  refine ⟨p, r, _, rfl, W, by decide, by decide, fun d σ1 h0 h1 W1 A1 => ?_⟩
  walk_at "sw"
  refine tup_pick h0 h1 (Nat.le_of_ble_eq_true rfl) ?_
  intro v hv
  obtain ⟨nf, rfl, hnf⟩ : ∃ nf : Int, v = .int nf ∧ (nf = 2 ∨ nf = 10) := by
    simp only [List.mem_cons, List.not_mem_nil, or_false] at hv
    rcases hv with rfl | rfl
    · exact ⟨_, rfl, .inl rfl⟩
    · exact ⟨_, rfl, .inr rfl⟩
  walk_at "sw"
  refine ⟨p, r, _, rfl, W1, by decide, by decide, fun d2 σ2 h02 h12 W2 A2 => ?_⟩
  walk_at "sw"
  refine tup_pick h02 h12 (Nat.le_of_ble_eq_true rfl) ?_
  intro v hv
  obtain ⟨pr, rfl⟩ : ∃ pr : Int, v = .int pr := by
    simp only [List.mem_cons, List.not_mem_nil, or_false] at hv
    rcases hv with rfl | rfl | rfl | rfl | rfl | rfl | rfl <;> exact ⟨_, rfl⟩
  clear hv
  have go := fun pr h => hG3 _ σ2 (far nf pr σ2 hnf h W2 (A1.trans A2))
  clear far hG3 hG hK
  walk_at "sw"
  refine ifB_of (fun h => ?_) (fun h => ?_)
  · walk_at "sw"
    refine ifB_of (fun h3 => ?_) (fun h3 => ?_)
    · walk_at "sw"
      exact go 58 fun _ => by decide
    · rw [eqv_int] at h3
      walk_at "sw"
      exact go pr fun _ => of_decide_eq_false h3
  · rw [eqv_int] at h
    walk_at "sw"
    exact go pr fun e => absurd e (of_decide_eq_false h)
end

section
open PySem PySem.W
open scoped Classical

theorem own_adr {n : Int} {t : Tu} {src : Bool} (h : Own n t) : 1000 + 8 * n ≤ adr t src := by
  unfold adr; split
  · exact h.2.1.1
  · exact h.2.1.2
theorem own_prt {n : Int} {t : Tu} {src : Bool} (h : Own n t) : 0 ≤ prt t src ∧ prt t src ≤ 65535 := by
  obtain ⟨_, _, h1, h2, h3, h4⟩ := h
  unfold prt; split
  · exact ⟨h1, h2⟩
  · exact ⟨h3, h4⟩

noncomputable def PqOk (pq : Option (Int × Int)) : Prop := ∀ l h, pq = some (l, h) → 0 ≤ l ∧ l ≤ 65535 ∧ 0 ≤ h ∧ h ≤ 65535
theorem rq0 {n : Int} {pq : Option (Int × Int)} (h : PqOk pq) : RqIn n ⟨none, pq, false⟩ := ⟨⟨fun _ _ e => (nomatch e), h⟩, fun _ _ e => (nomatch e)⟩
theorem rq1 {n l h : Int} {pq : Option (Int × Int)} (hp : PqOk pq) (hn : 0 ≤ n) (h1 : 1000 + 8 * n ≤ l) (h2 : l % 8 = 0) (h3 : h = l + 7) : RqIn n ⟨some (l, h), pq, true⟩ :=
  ⟨⟨fun l' h' e => by cases e; exact ⟨by omega, h2, h3⟩, hp⟩, fun l' h' e => by cases e; exact h1⟩
theorem rq2 {n l : Int} {pq : Option (Int × Int)} (hp : PqOk pq) (hn : 0 ≤ n) (h1 : 1000 + 8 * n ≤ l) : RqIn n ⟨some (l, l), pq, false⟩ :=
  ⟨⟨fun l' h' e => by cases e; exact ⟨by omega, rfl⟩, hp⟩, fun l' h' e => by cases e; exact h1⟩
theorem pq_of {x : Int} {v : V} (h0 : 0 ≤ x) (h1 : x ≤ 65535) (hv : v ∈ [V.none, V.tup [V.int (if 0 > x - 1 then 0 else x - 1), V.int (if 65535 < x + 2 then 65535 else x + 2)], V.tup [V.int 40000, V.int 40003], V.tup [V.int 40002, V.int 40002], V.tup [V.int 40003, V.int 40000]]) :
    ∃ pq, v = pv pq ∧ PqOk pq := by
  simp only [List.mem_cons, List.not_mem_nil, or_false] at hv
  rcases hv with rfl | rfl | rfl | rfl | rfl
  · exact ⟨none, rfl, fun _ _ e => (nomatch e)⟩
  · refine ⟨some (if 0 > x - 1 then 0 else x - 1, if 65535 < x + 2 then 65535 else x + 2), rfl, fun l h e => ?_⟩
    obtain ⟨rfl, rfl⟩ := Prod.mk.inj (Option.some.inj e)
    refine ⟨?_, ?_, ?_, ?_⟩ <;> split <;> omega
  · exact ⟨some (40000, 40003), rfl, fun l h e => by cases e; decide⟩
  · exact ⟨some (40002, 40002), rfl, fun l h e => by cases e; decide⟩
  · exact ⟨some (40003, 40000), rfl, fun l h e => by cases e; decide⟩
theorem fdiv8 {a : Int} : a.fdiv 8 = a / 8 := Int.fdiv_eq_ediv_of_nonneg _ (by decide)

theorem two64 : (2 : Int) ^ (64 : Int).toNat = 18446744073709551616 := rfl
noncomputable def reqR (p : Nat) (t : Tu) (src : Bool) (s pl own port net other : Int) : Loc := ⟨fd_law_request.1.scope, (nsOf fd_law_request.1).zip [.ref p, tv t, mv src] ++ [(("spot" : Str), V.int s), (("place" : Str), V.int pl), (("port" : Str), V.int port), (("own" : Str), V.int own), (("net" : Str), V.int net), (("other" : Str), V.int other)]⟩

theorem five {d : Int} (h0 : 0 ≤ d) (h1 : d < 5) : d = 0 ∨ d = 1 ∨ d = 2 ∨ d = 3 ∨ d = 4 := by
  obtain ⟨n, rfl⟩ := Int.eq_ofNat_of_zero_le h0
  have all : ∀ i : Fin 5, ((i.val : Int) = 0 ∨ (i.val : Int) = 1 ∨ (i.val : Int) = 2 ∨ (i.val : Int) = 3 ∨ (i.val : Int) = 4) := by decide
  exact all ⟨n, Int.ofNat_lt.mp h1⟩
theorem request_tail {σ : SH} {K : KE} {p r : Nat} {t : Tu} {src : Bool} {s pl own port net other n : Int} (W : PenW σ p r) (hn : 0 ≤ n) (hp0 : 0 ≤ port) (hp1 : port ≤ 65535) (h1 : 1000 + 8 * n ≤ own) (h2 : 1000 + 8 * n ≤ net ∧ net % 8 = 0) (h3 : 1000 + 8 * n ≤ other ∧ other % 8 = 0)
    (hK : ∀ q σ', RqIn n q → PenW σ' p r → Ag [p, r] σ σ' → K (askv q) σ') :
    exs (ev tab 44) (b_law_request.1.drop 4) (reqR p t src s pl own port net other) σ (retK K) := by
  walk_at "sw"
  refine ⟨p, r, _, rfl, W, by decide, by decide, fun d1 σ1 h01 h11 W1 A1 => ?_⟩
  walk_at "sw"
  refine ⟨p, r, _, rfl, W1, by decide, by decide, fun d2 σ2 h02 h12 W2 A2 => ?_⟩
  have A := A1.trans A2
  rcases five h01 h11 with rfl | rfl | rfl | rfl | rfl
  all_goals
    walk_at "sw"
    refine tup_pick h02 h12 (Nat.le_of_ble_eq_true rfl) ?_
    intro v hv
    obtain ⟨pq, rfl, hpq⟩ := pq_of hp0 hp1 hv
    walk_at "sw"
  · exact hK ⟨none, pq, false⟩ σ2 (rq0 hpq) W2 A
  · exact hK ⟨some (net, net + 7), pq, true⟩ σ2 (rq1 hpq hn h2.1 h2.2 rfl) W2 A
  · exact hK ⟨some (other, other + 7), pq, true⟩ σ2 (rq1 hpq hn h3.1 h3.2 rfl) W2 A
  · exact hK ⟨some (own + 4096, own + 4096), pq, false⟩ σ2 (rq2 hpq hn (by omega)) W2 A
  · exact hK ⟨some (own, own), pq, false⟩ σ2 (rq2 hpq hn h1) W2 A

theorem d_l_request : Does tab 44 fd_law_request.1 b_law_request.1 P_l_request := by
  rintro vs σ K ⟨p, r, t, src, n, rfl, W, ho, hn, hK⟩
  refine ⟨rfl, ?_⟩
  have hadr := own_adr (src := src) ho
  have hprt := own_prt (src := src) ho
  have tail : ∀ other, 1000 + 8 * n ≤ other → other % 8 = 0 → exs (ev tab 44) (b_law_request.1.drop 4) (reqR p t src (spotI src) (placeI t src) (adr t src) (prt t src) ((adr t src).fdiv 8 * 8) other) σ (retK K) := fun other h3 h4 =>
    request_tail W hn hprt.1 hprt.2 (by omega) (by rw [fdiv8]; constructor <;> omega) ⟨h3, h4⟩ hK
  have t1 := tail ((adr t src).fdiv 8 * 8 + 65536) (by rw [fdiv8]; omega) (by rw [fdiv8]; omega)
  have t2 := tail ((adr t src).fdiv 8 * 8 + 2 ^ (64 : Int).toNat) (by rw [fdiv8, two64]; omega) (by rw [fdiv8, two64]; omega)
  clear tail
  refine exs_cut 4 fun G hG _ => ?_
  walk_at "sw"
  refine ⟨t, src, rfl, ?_⟩
  cases src with
  | true =>
    walk_at "sw"
    refine ifB_of (fun h => ?_) (fun h => ?_)
    · walk_at "sw"
      exact hG _ _ t1
    · walk_at "sw"
      exact hG _ _ t2
  | false =>
    cases hp : ping t with
    | true =>
      have e1 : placeI t false = 3 := by simp [placeI, hp]
      have e2 : prt t false = t.sp := by simp [prt, hp]
      rw [e1, e2] at t1 t2
      first | refine oP_of e1 ?_ | rw [e1]
      walk_at "sw"
      refine ifB_of (fun h => ?_) (fun h => ?_)
      · walk_at "sw"
        exact hG _ _ t1
      · walk_at "sw"
        exact hG _ _ t2
    | false =>
      have e1 : placeI t false = 5 := by simp [placeI, hp]
      have e2 : prt t false = t.dp := by simp [prt, hp]
      rw [e1, e2] at t1 t2
      first | refine oP_of e1 ?_ | rw [e1]
      walk_at "sw"
      refine ifB_of (fun h => ?_) (fun h => ?_)
      · walk_at "sw"
        exact hG _ _ t1
      · walk_at "sw"
        exact hG _ _ t2
end

section
open PySem PySem.W
open scoped Classical

theorem sorted_two {x y : Int} {ns : List Int} (h : sorted2 [x, y] ns) : ns = (if x ≤ y then [x, y] else [y, x]) := by
  by_cases hxy : x ≤ y
  · rw [if_pos hxy]
    exact h.1.eq_of_pairwise (fun a b _ _ h1 h2 => Int.le_antisymm h1 h2) h.2 (List.pairwise_pair.mpr hxy)
  · rw [if_neg hxy]
    exact (h.1.trans (List.Perm.swap _ _ _)).eq_of_pairwise (fun a b _ _ h1 h2 => Int.le_antisymm h1 h2) h.2 (List.pairwise_pair.mpr (Int.le_of_lt (Int.not_le.mp hxy)))
noncomputable def portAt (t : Tu) (src : Bool) (lo hi : Int) (k : Nat) : Int := lo + ((prt t src - lo) % (hi - lo + 1) + k) % (hi - lo + 1)
theorem port_0 {t : Tu} {src : Bool} {lo hi : Int} (h : lo ≤ hi) : portAt t src lo hi 0 = (if lo ≤ prt t src ∧ prt t src ≤ hi then prt t src else lo + (prt t src - lo) % (hi - lo + 1)) := by
  unfold portAt
  rw [show ((prt t src - lo) % (hi - lo + 1) + ((0 : Nat) : Int)) = (prt t src - lo) % (hi - lo + 1) by omega, Int.emod_emod_of_dvd _ (Int.dvd_refl _)]
  split
  · rename_i q
    rw [Int.emod_eq_of_lt (by omega) (by omega)]; omega
  · rfl
theorem port_s {t : Tu} {src : Bool} {lo hi : Int} (h : lo ≤ hi) (k : Nat) : portAt t src lo hi (k + 1) = (if portAt t src lo hi k = hi then lo else portAt t src lo hi k + 1) := by
  unfold portAt
  generalize (prt t src - lo) % (hi - lo + 1) = a
  have hm : 0 < hi - lo + 1 := by omega
  have e : (a + ((k + 1 : Nat) : Int)) % (hi - lo + 1) = ((a + k) % (hi - lo + 1) + 1) % (hi - lo + 1) := by
    rw [Int.add_emod ((a + k) % (hi - lo + 1)), Int.emod_emod_of_dvd _ (Int.dvd_refl _), ← Int.add_emod]
    congr 1; omega
  first | refine oP_of e ?_ | rw [e]
  have h0 := Int.emod_nonneg (a + k) (show hi - lo + 1 ≠ 0 by omega)
  have h1 := Int.emod_lt_of_pos (a + k) hm
  generalize (a + (k : Int)) % (hi - lo + 1) = x at h0 h1
  split
  · have : x + 1 = hi - lo + 1 := by omega
    rw [this, Int.emod_self]; omega
  · rw [Int.emod_eq_of_lt (by omega) (by omega)]; omega

noncomputable def roundR (t : Tu) (src : Bool) (pq : Option (Int × Int)) (tr lo hi : Int) : Loc := ⟨fd_law_round.1.scope, (nsOf fd_law_round.1).zip [tv t, .int (placeI t src), pv pq, mv src, .int tr] ++ [(("low" : Str), V.int lo), (("high" : Str), V.int hi)]⟩
theorem ag_new {σ l σ' : SH} (h : Ag [σ.length] (σ ++ l) σ') : Ag [] σ σ' := ⟨Nat.le_trans (by rw [List.length_append]; exact Nat.le_add_right _ _) h.1, fun i o e _ => h.2 i o (get_app e) fun hm => by
  obtain rfl := List.mem_singleton.mp hm
  exact absurd (List.getElem?_eq_some_iff.mp e).1 (Nat.lt_irrefl _)⟩

noncomputable def roundR2 (t : Tu) (src : Bool) (pq : Option (Int × Int)) (tr lo hi port : Int) (k : Nat) (sp : List (Str × V)) : Loc := ⟨fd_law_round.1.scope, (nsOf fd_law_round.1).zip [tv t, .int (placeI t src), pv pq, mv src, .int tr] ++ [(("low" : Str), V.int lo), (("high" : Str), V.int hi), (("port" : Str), V.int port), (("row" : Str), V.ref k)] ++ sp⟩

theorem setP_place {t : Tu} {src : Bool} {n : Int} : ∃ t', t' = setP t src n ∧ ((placeI t src = 2 ∧ t' = { t with sa := n }) ∨ (placeI t src = 3 ∧ t' = { t with sp := n }) ∨ (placeI t src = 4 ∧ t' = { t with da := n }) ∨ (placeI t src = 5 ∧ t' = { t with dp := n })) := by
  refine ⟨_, rfl, ?_⟩
  unfold setP placeI
  cases (src || ping t)
  · exact .inr (.inr (.inr ⟨rfl, rfl⟩))
  · exact .inr (.inl ⟨rfl, rfl⟩)

theorem round_loop {σ0 σ : SH} {K : KE} {t : Tu} {src : Bool} {pq : Option (Int × Int)} {tr lo hi : Int} (htr : 1 ≤ tr ∧ tr ≤ 100) (hl : lo ≤ hi) (hk : σ[σ0.length]? = some (.list [])) (hA : Ag [] σ0 σ)
    (hK : ∀ σ', Ag [] σ0 σ' → σ'[σ0.length]? = some (.list ((roundL t src lo hi tr).map fun (c : Tu × Bool) => tv c.1)) → K (.ref σ0.length) σ') :
    exs (ev tab 44) (b_law_round.1.drop 4) (roundR2 t src pq tr lo hi (portAt t src lo hi 0) σ0.length []) σ (retK K) := by
  walk_at "sw"
  have hn := if_min (hi - lo + 1) tr
  have hN : (min (hi - lo + 1) tr).toNat ≤ 100 := min_100 htr.2
  refine ⟨⟨?_, trivial⟩, ?_⟩
  · show (intRow (if tr < hi - lo + 1 then tr else hi - lo + 1).toNat).length ≤ 1000
    rw [intRow_len, hn]; exact Nat.le_trans hN (by decide)
  refine loop_ind (fun vs ρ σ' => ∃ (i m : Nat), vs = (List.range' i m).map (fun (k : Nat) => V.int k) ∧ i + m = (min (hi - lo + 1) tr).toNat ∧ (∃ sp : List (Str × V), (sp = [] ∨ ∃ v, sp = [(("step" : Str), v)]) ∧
    ρ = roundR2 t src pq tr lo hi (portAt t src lo hi i) σ0.length sp) ∧ σ'[σ0.length]? = some (.list ((List.range i).map fun j => tv (setP t src (portAt t src lo hi j)))) ∧ Ag [] σ0 σ') ?_ ?_ _ _ _ ?_
  · rintro ρ σ' ⟨i, m, e, him, ⟨sp, hsp, rfl⟩, hrow, A'⟩
    have : m = 0 := by cases m with
      | zero => rfl
      | succ m => cases e
    subst this
    have him : i = (min (hi - lo + 1) tr).toNat := by omega
    subst him
    have e2 : (roundL t src lo hi tr).map (fun (c : Tu × Bool) => tv c.1) = (List.range (min (hi - lo + 1) tr).toNat).map fun j => tv (setP t src (portAt t src lo hi j)) := by
      unfold roundL
      rw [List.map_map]; rfl
    rw [← e2] at hrow
    refine ⟨trivial, ?_⟩
    rcases hsp with rfl | ⟨v, rfl⟩
    · walk_at "sw"; exact hK σ' A' hrow
    · walk_at "sw"; exact hK σ' A' hrow
  · rintro v rest ρ σ' G hG ⟨i, m, e, him, ⟨sp, hsp, rfl⟩, hrow, A'⟩
    refine ⟨trivial, ?_⟩
    cases m with
    | zero => cases e
    | succ m =>
      rw [List.range'_succ, List.map_cons] at e
      obtain ⟨rfl, rfl⟩ := List.cons.inj e
      obtain ⟨t', ht', hpl⟩ := setP_place (t := t) (src := src) (n := portAt t src lo hi i)
      have hs := port_s (t := t) (src := src) hl i
      have hrow2 : ∀ σ2 X, σ2 = σ'.set σ0.length (.list X) → X = ((List.range i).map fun j => tv (setP t src (portAt t src lo hi j))) ++ [tv t'] → σ2[σ0.length]? = some (.list ((List.range (i + 1)).map fun j => tv (setP t src (portAt t src lo hi j)))) ∧ Ag [] σ0 σ2 := by
        rintro σ2 X rfl rfl
        refine ⟨?_, ⟨by rw [List.length_set]; exact A'.1, fun j o hj _ => ?_⟩⟩
        · rw [get_set_eq hrow, List.range_succ, List.map_append, ht']; rfl
        · refine get_set_ne (A'.2 j o hj (fun q => nomatch q)) fun q => ?_
          have := (List.getElem?_eq_some_iff.mp hj).1
          omega
      have step : ∀ σ2 port2 v, port2 = portAt t src lo hi (i + 1) → σ2[σ0.length]? = some (.list ((List.range (i + 1)).map fun j => tv (setP t src (portAt t src lo hi j)))) ∧ Ag [] σ0 σ2 → G (roundR2 t src pq tr lo hi port2 σ0.length [(("step" : Str), v)]) σ2 := by
        rintro σ2 port2 v rfl ⟨h1, h2⟩
        exact hG _ _ ⟨i + 1, m, rfl, by omega, ⟨_, .inr ⟨_, rfl⟩, rfl⟩, h1, h2⟩
      generalize portAt t src lo hi i = port at hs hpl ht' hrow2
      have hset : (roundR2 t src pq tr lo hi port σ0.length sp).set ("step" : Str) (.int (i : Int)) = roundR2 t src pq tr lo hi port σ0.length [(("step" : Str), .int (i : Int))] := by rcases hsp with rfl | ⟨v, rfl⟩ <;> rfl
      refine asg_name rfl ?_
      rw [hset]
      clear hset hsp
      walk_at "sw"
      first | refine oP_of hrow ?_ | rw [hrow]
      walk_at "sw"
      refine ⟨t, port, placeI t src, t', rfl, hpl, ?_⟩
      walk_at "sw"
      first | refine oP_of hrow ?_ | rw [hrow]
      walk_at "sw"
      refine ⟨by rw [List.length_map, List.length_range]; omega, ?_⟩
      generalize hσ2 : σ'.set σ0.length (.list (((List.range i).map fun j => tv (setP t src (portAt t src lo hi j))) ++ [tv t'])) = σ2
      have h2 := hrow2 σ2 _ hσ2.symm rfl
      walk_at "sw"
      refine ifB_of (fun h => ?_) (fun h => ?_)
      · rw [eqv_int] at h
        rw [if_pos (of_decide_eq_true h)] at hs
        walk_at "sw"
        exact step σ2 lo _ hs.symm h2
      · rw [eqv_int] at h
        rw [if_neg (of_decide_eq_false h)] at hs
        walk_at "sw"
        exact step σ2 (port + 1) _ hs.symm h2
  · refine ⟨0, (min (hi - lo + 1) tr).toNat, ?_, by omega, ⟨[], .inl rfl, rfl⟩, hk, hA⟩
    show intRow (if tr < hi - lo + 1 then tr else hi - lo + 1).toNat = _
    rw [hn, intRow_map, List.range_eq_range']

theorem round_tail {σ : SH} {K : KE} {t : Tu} {src : Bool} {pq : Option (Int × Int)} {tr lo hi : Int} (htr : 1 ≤ tr ∧ tr ≤ 100) (hl : lo ≤ hi)
    (hK : ∀ k σ', Ag [] σ σ' → σ'[k]? = some (.list ((roundL t src lo hi tr).map fun (c : Tu × Bool) => tv c.1)) → K (.ref k) σ') :
    exs (ev tab 44) (b_law_round.1.drop 3) (roundR t src pq tr lo hi) σ (retK K) := by
  have tail := round_loop (σ0 := σ) (σ := σ ++ [.list []]) (K := K) (t := t) (src := src) (pq := pq) htr hl get_new (Ag.app _ _ _) (fun σ' A' h => hK _ σ' A' h)
  have h0 := port_0 (t := t) (src := src) hl
  generalize portAt t src lo hi 0 = port at h0 tail
  refine exs_cut 1 fun G hG _ => ?_
  have tail := hG _ _ tail
  clear hG
  cases hsp : (src || ping t) with
  | true =>
    have e1 : placeI t src = 3 := by unfold placeI; rw [hsp]; rfl
    have e2 : prt t src = t.sp := by unfold prt; rw [hsp]; rfl
    unfold roundR2 at tail
    unfold roundR
    rw [e1] at tail ⊢
    rw [e2] at h0
    walk_at "sw"
    refine ifB_of (fun h1 => ?_) (fun h1 => ?_)
    · walk_at "sw"
      refine ifB_of (fun h2 => ?_) (fun h2 => ?_)
      · rw [if_pos ⟨of_decide_eq_true h1, of_decide_eq_true h2⟩] at h0
        subst h0
        walk_at "sw"
        exact tail
      · rw [if_neg (fun q => of_decide_eq_false h2 q.2)] at h0
        walk_at "sw"
        rw [Int.fmod_eq_emod_of_nonneg _ (by omega), ← h0]
        exact tail
    · rw [if_neg (fun q => of_decide_eq_false h1 q.1)] at h0
      walk_at "sw"
      rw [Int.fmod_eq_emod_of_nonneg _ (by omega), ← h0]
      exact tail
  | false =>
    have e1 : placeI t src = 5 := by unfold placeI; rw [hsp]; rfl
    have e2 : prt t src = t.dp := by unfold prt; rw [hsp]; rfl
    unfold roundR2 at tail
    unfold roundR
    rw [e1] at tail ⊢
    rw [e2] at h0
    walk_at "sw"
    refine ifB_of (fun h1 => ?_) (fun h1 => ?_)
    · walk_at "sw"
      refine ifB_of (fun h2 => ?_) (fun h2 => ?_)
      · rw [if_pos ⟨of_decide_eq_true h1, of_decide_eq_true h2⟩] at h0
        subst h0
        walk_at "sw"
        exact tail
      · rw [if_neg (fun q => of_decide_eq_false h2 q.2)] at h0
        walk_at "sw"
        rw [Int.fmod_eq_emod_of_nonneg _ (by omega), ← h0]
        exact tail
    · rw [if_neg (fun q => of_decide_eq_false h1 q.1)] at h0
      walk_at "sw"
      rw [Int.fmod_eq_emod_of_nonneg _ (by omega), ← h0]
      exact tail

theorem ag_trans0 {σ σ' σ'' : SH} (a : Ag [] σ σ') (b : Ag [] σ' σ'') : Ag [] σ σ'' := a.trans b

theorem d_l_round : Does tab 44 fd_law_round.1 b_law_round.1 P_l_round := by
  rintro vs σ K ⟨t, src, q, tr, rfl, htr, hq, hK⟩
  refine ⟨rfl, ?_⟩
  have tail : ∀ lo hi σ1, spanP t src q = some (lo, hi) → Ag [] σ σ1 → exs (ev tab 44) (b_law_round.1.drop 3) (roundR t src q.ports tr lo hi) σ1 (retK K) := fun lo hi σ1 hs A1 => by
    rw [hs] at hK
    exact round_tail htr (span_le hs) fun k σ' A' h => hK k σ' (A1.trans A') h
  have nothing : spanP t src q = none → K (.ref σ.length) (σ ++ [.list []]) := fun hs => by
    rw [hs] at hK
    exact hK _ _ (Ag.app _ _ _) get_new
  refine exs_cut 3 fun G hG hR => ?_
  have tail := fun lo hi σ1 h A => hG _ _ (tail lo hi σ1 h A)
  have nothing : ∀ ρ, spanP t src q = none → G (.ret (.ref σ.length)) ρ (σ ++ [.list []]) := fun ρ h => hR _ ρ _ (nothing h)
  clear hG hR hK
  obtain ⟨lohi, ports, net⟩ := q
  have memP : ([PyData.int 6, PyData.int 17].any fun e => PyData.eqv e (PyData.int t.pr)) = (decide (t.pr = 6) || decide (t.pr = 17)) := by
    simp only [List.any_cons, List.any_nil, eqv_int, Bool.or_false]
    congr 1 <;> (congr 1; exact propext eq_comm)
  cases hg : ping t with
  | true =>
    have hh : hasP t = true := by simp [hasP, hg]
    cases ports with
    | none =>
      have tail := tail 0 65535 σ (by simp [spanP, hh, hg]) (Ag.refl _ _)
      cases src
      all_goals
        walk_at "sw"
        repeat
          refine ⟨t, rfl, ?_⟩
          first | refine oP_of hg ?_ | rw [hg]
          walk_at "sw"
        exact tail
    | some p =>
      have hs : spanP t src ⟨lohi, some p, net⟩ = some (if p.1 ≤ p.2 then p else (p.2, p.1)) := by simp [spanP, hh]
      walk_at "sw"
      repeat
        refine ⟨t, rfl, ?_⟩
        first | refine oP_of hg ?_ | rw [hg]
        walk_at "sw"
      intro ns hns
      have hns := sorted_two hns
      by_cases hle : p.1 ≤ p.2
      · rw [if_pos hle] at hns hs
        subst hns
        walk_at "sw"
        first | refine oP_of get_new ?_ | rw [get_new]
        walk_at "sw"
        exact tail _ _ _ hs (Ag.app _ _ _)
      · rw [if_neg hle] at hns hs
        subst hns
        walk_at "sw"
        first | refine oP_of get_new ?_ | rw [get_new]
        walk_at "sw"
        exact tail _ _ _ hs (Ag.app _ _ _)
  | false =>
    cases hm : (decide (t.pr = 6) || decide (t.pr = 17)) with
    | false =>
      have hh : hasP t = false := by simp [hasP, hg, hm]
      walk_at "sw"
      refine ⟨t, rfl, ?_⟩
      first | refine oP_of hg ?_ | rw [hg]
      walk_at "sw"
      rw [memP, hm]
      walk_at "sw"
      exact nothing _ (by simp [spanP, hh])
    | true =>
      have hh : hasP t = true := by simp [hasP, hg, hm]
      cases ports with
      | none =>
        cases src with
        | false =>
          walk_at "sw"
          refine ⟨t, rfl, ?_⟩
          first | refine oP_of hg ?_ | rw [hg]
          walk_at "sw"
          rw [memP, hm]
          walk_at "sw"
          refine ⟨t, rfl, ?_⟩
          first | refine oP_of hg ?_ | rw [hg]
          walk_at "sw"
          exact nothing _ (by simp [spanP, hh, hg])
        | true =>
          have hs : spanP t true ⟨lohi, none, net⟩ = (if t.sp < 512 then some (1, 511) else if t.sp < 1024 then some (600, 1023) else some (1024, 65535)) := by simp [spanP, hh, hg]
          walk_at "sw"
          refine ⟨t, rfl, ?_⟩
          first | refine oP_of hg ?_ | rw [hg]
          walk_at "sw"
          rw [memP, hm]
          walk_at "sw"
          refine ⟨t, rfl, ?_⟩
          first | refine oP_of hg ?_ | rw [hg]
          walk_at "sw"
          refine ⟨t, rfl, ?_⟩
          first | refine oP_of hg ?_ | rw [hg]
          walk_at "sw"
          refine ifB_of (fun h1 => ?_) (fun h1 => ?_)
          · walk_at "sw"
            refine ifB_of (fun h2 => ?_) (fun h2 => ?_)
            · rw [if_pos (of_decide_eq_true h2)] at hs
              walk_at "sw"
              exact tail _ _ _ hs (Ag.refl _ _)
            · rw [if_neg (of_decide_eq_false h2), if_pos (of_decide_eq_true h1)] at hs
              walk_at "sw"
              exact tail _ _ _ hs (Ag.refl _ _)
          · have h1 := of_decide_eq_false h1
            have h1 : ¬ t.sp < 1024 := h1
            rw [if_neg (by omega), if_neg h1] at hs
            walk_at "sw"
            exact tail _ _ _ hs (Ag.refl _ _)
      | some p =>
        have hs : spanP t src ⟨lohi, some p, net⟩ = some (if p.1 ≤ p.2 then p else (p.2, p.1)) := by simp [spanP, hh]
        walk_at "sw"
        refine ⟨t, rfl, ?_⟩
        first | refine oP_of hg ?_ | rw [hg]
        walk_at "sw"
        rw [memP, hm]
        walk_at "sw"
        refine ⟨t, rfl, ?_⟩
        first | refine oP_of hg ?_ | rw [hg]
        walk_at "sw"
        intro ns hns
        have hns := sorted_two hns
        by_cases hle : p.1 ≤ p.2
        · rw [if_pos hle] at hns hs
          subst hns
          walk_at "sw"
          first | refine oP_of get_new ?_ | rw [get_new]
          walk_at "sw"
          exact tail _ _ _ hs (Ag.app _ _ _)
        · rw [if_neg hle] at hns hs
          subst hns
          walk_at "sw"
          first | refine oP_of get_new ?_ | rw [get_new]
          walk_at "sw"
          exact tail _ _ _ hs (Ag.app _ _ _)
end

section
open PySem PySem.W
open scoped Classical

theorem comp_map {r : Rec} {elt : Expr} {x : Str} {still : SH → Prop} {σ : SH} {f : V → V} {sc : Scope} (hs : still σ) (h : ∀ v (G : KE), G (f v) σ → r.e elt ⟨sc, [(x, v)]⟩ σ G) :
    ∀ (vs : List V) (ρ : Loc) (K : List V → SH → Prop), (ρ = ⟨sc, []⟩ ∨ ∃ u, ρ = ⟨sc, [(x, u)]⟩) → K (vs.map f) σ → compW r elt x [] still vs ρ σ K
  | [], _, _, _, hK => ⟨hs, hK⟩
  | v :: vs, ρ, K, hρ, hK => by
    have e : ρ.set x v = ⟨sc, [(x, v)]⟩ := by
      rcases hρ with rfl | ⟨u, rfl⟩
      · rfl
      · show Loc.mk sc (if x == x then [(x, v)] else _) = _
        rw [if_pos (by simp)]
    refine ⟨hs, ?_⟩
    first | refine oP_of e ?_ | rw [e]
    show r.e elt ⟨sc, [(x, v)]⟩ σ fun y σ2 => compW r elt x [] still vs ⟨sc, [(x, v)]⟩ σ2 fun ys σ3 => K (y :: ys) σ3
    exact h v _ (comp_map hs h vs _ _ (.inr ⟨v, rfl⟩) hK)

noncomputable def td (t : Tu) : PyData := .tuple [.int t.nf, .int t.pr, .int t.sa, .int t.sp, .int t.da, .int t.dp]
theorem pys_tvs : ∀ cs : List Tu, V.pys (cs.map tv) = some (cs.map td)
  | [] => rfl
  | c :: cs => by
    show (match V.py (tv c), V.pys (cs.map tv) with | some d, some ds => some (d :: ds) | _, _ => none) = _
    rw [pys_tvs cs]; rfl
theorem pyOf_tvs {σ : SH} {k : Nat} {cs : List Tu} (h : σ[k]? = some (.list (cs.map tv))) : pyOf σ (.ref k) = some (.list (cs.map td)) := by
  unfold pyOf; dsimp only; rw [h]; dsimp only; rw [pys_tvs]; rfl
theorem sh2_tds : ∀ cs : List Tu, (cs.map td).all sh2 = true
  | [] => rfl
  | _ :: cs => sh2_tds cs
theorem shaped_tds (cs : List Tu) : sh3 (.list (cs.map td)) = true := sh2_tds cs
theorem place_setA {t : Tu} {src : Bool} {a : Int} : placeI (setA' t src a) src = placeI t src := by cases src <;> rfl
theorem setA_id {t : Tu} {src : Bool} : setA' t src (adr t src) = t := by cases src <;> rfl

noncomputable def waR (t : Tu) (src : Bool) (q : Rq) (tr : Int) (more : List (Str × V)) : Loc := ⟨fd_law_waiting.1.scope, (nsOf fd_law_waiting.1).zip [tv t, mv src, askv q, .int tr] ++ [(("low" : Str), ov (q.lohi.map (·.1))), (("high" : Str), ov (q.lohi.map (·.2))), (("ports" : Str), pv q.ports), (("flags" : Str), flagv q.net),
  (("spot" : Str), V.int (spotI src)), (("place" : Str), V.int (placeI t src)), (("has_number" : Str), V.bool (hasP t)), (("is_right" : Str), V.bool (fits t src q.ports))] ++ more⟩

theorem wait_A {σ : SH} {t : Tu} {src : Bool} {q : Rq} {tr : Int} {G : KS} (hG : G .next (waR t src q tr []) σ) :
    exs (ev tab 60) (b_law_waiting.1.take 4) ⟨fd_law_waiting.1.scope, (nsOf fd_law_waiting.1).zip [tv t, mv src, askv q, .int tr]⟩ σ G := by
  have memP : ([PyData.int 6, PyData.int 17].any fun e => PyData.eqv e (PyData.int t.pr)) = (decide (t.pr = 6) || decide (t.pr = 17)) := by
    simp only [List.any_cons, List.any_nil, eqv_int, Bool.or_false]
    congr 1 <;> (congr 1; exact propext eq_comm)
  have e3 : hasP t = (decide (t.pr = 6) || decide (t.pr = 17)) ∨ (hasP t = true ∧ ping t = true) := by
    unfold hasP
    cases ping t <;> simp
  obtain ⟨lohi, ports, net⟩ := q
  have right : ∀ (x : Int) (s : Int), s = placeI t src → ((s = 3 ∧ x = t.sp) ∨ (s = 5 ∧ x = t.dp)) → prt t src = x → True := fun _ _ _ _ _ => trivial
  have hpp : (placeI t src = 3 ∧ prt t src = t.sp) ∨ (placeI t src = 5 ∧ prt t src = t.dp) := by
    unfold placeI prt
    cases (src || ping t)
    · exact .inr ⟨rfl, rfl⟩
    · exact .inl ⟨rfl, rfl⟩
  walk_at "sw"
  refine ⟨t, src, rfl, ?_⟩
  walk_at "sw"
  refine ⟨t, rfl, ?_⟩
  cases hg : ping t with
  | true =>
    have hh : hasP t = true := by simp [hasP, hg]
    unfold waR at hG
    rw [hh] at hG
    walk_at "sw"
    cases ports with
    | none =>
      walk_at "sw"
      exact hG
    | some p =>
      have ef : fits t src (some p) = (decide (p.1 ≤ prt t src) && decide (prt t src ≤ p.2)) := by simp [fits, hh]
      rcases hpp with ⟨h1, h2⟩ | ⟨h1, h2⟩
      all_goals
        rw [h1] at hG ⊢
        simp only [ef, h2] at hG
        walk_at "sw"
        refine ifB_of (fun h3 => ?_) (fun h3 => ?_)
        · rw [h3, Bool.true_and] at hG
          walk_at "sw"
          exact hG
        · rw [h3, Bool.false_and] at hG
          walk_at "sw"
          exact hG
  | false =>
    cases hm : (decide (t.pr = 6) || decide (t.pr = 17)) with
    | false =>
      have hh : hasP t = false := by simp [hasP, hg, hm]
      unfold waR at hG
      have ef : fits t src ports = true := by
        unfold fits
        cases ports
        · rfl
        · simp [hh]
      simp only [hh, ef] at hG
      walk_at "sw"
      rw [memP, hm]
      walk_at "sw"
      exact hG
    | true =>
      have hh : hasP t = true := by simp [hasP, hg, hm]
      unfold waR at hG
      rw [hh] at hG
      walk_at "sw"
      rw [memP, hm]
      walk_at "sw"
      cases ports with
      | none =>
        walk_at "sw"
        exact hG
      | some p =>
        have ef : fits t src (some p) = (decide (p.1 ≤ prt t src) && decide (prt t src ≤ p.2)) := by simp [fits, hh]
        rcases hpp with ⟨h1, h2⟩ | ⟨h1, h2⟩
        all_goals
          rw [h1] at hG ⊢
          simp only [ef, h2] at hG
          walk_at "sw"
          refine ifB_of (fun h3 => ?_) (fun h3 => ?_)
          · rw [h3, Bool.true_and] at hG
            walk_at "sw"
            exact hG
          · rw [h3, Bool.false_and] at hG
            walk_at "sw"
            exact hG

theorem wait_B {σ : SH} {t : Tu} {src : Bool} {q : Rq} {tr : Int} {G : KS} (hq : RqOk q)
    (hG : ∀ σ', Ag [] σ σ' → σ'[σ.length]? = some (.list (wv (if src && inA t src q then [(t, false)] else []))) → G .next (waR t src q tr [(("rows" : Str), V.ref σ.length), (("put" : Str), tv (setA' t src (newA t src q)))]) σ') :
    exs (ev tab 60) ((b_law_waiting.1.drop 4).take 3) (waR t src q tr []) σ G := by
  have h0 : (σ ++ [SO.list []])[σ.length]? = some (.list []) := get_new
  -- what is put
  have put : ∀ σ', (G .next (waR t src q tr [(("rows" : Str), V.ref σ.length), (("put" : Str), tv (setA' t src (newA t src q)))]) σ') → exs (ev tab 60) ((b_law_waiting.1.drop 6).take 1) (waR t src q tr [(("rows" : Str), V.ref σ.length)]) σ' G := by
    intro σ' hG
    obtain ⟨lohi, ports, net⟩ := q
    cases lohi with
    | none =>
      have e : setA' t src (newA t src ⟨none, ports, net⟩) = t := setA_id
      rw [e] at hG
      walk_at "sw"
      exact hG
    | some l =>
      cases net with
      | false =>
        cases src
        · walk_at "sw"
          refine ⟨t, _, _, { t with da := l.1 }, rfl, .inr (.inr (.inl ⟨rfl, rfl⟩)), ?_⟩
          walk_at "sw"
          exact hG
        · walk_at "sw"
          refine ⟨t, _, _, { t with sa := l.1 }, rfl, .inl ⟨rfl, rfl⟩, ?_⟩
          walk_at "sw"
          exact hG
      | true =>
        have e : newA t src ⟨some l, ports, true⟩ = l.1 + (adr t src).fmod 8 := by
          rw [Int.fmod_eq_emod_of_nonneg _ (by decide)]; rfl
        rw [e] at hG
        cases src
        · walk_at "sw"
          refine ⟨t, _, _, { t with da := l.1 + t.da.fmod 8 }, rfl, .inr (.inr (.inl ⟨rfl, rfl⟩)), ?_⟩
          walk_at "sw"
          exact hG
        · walk_at "sw"
          refine ⟨t, _, _, { t with sa := l.1 + t.sa.fmod 8 }, rfl, .inl ⟨rfl, rfl⟩, ?_⟩
          walk_at "sw"
          exact hG
  have yes : (src && inA t src q) = true → exs (ev tab 60) ((b_law_waiting.1.drop 6).take 1) (waR t src q tr [(("rows" : Str), V.ref σ.length)]) ((σ ++ [SO.list []]).set σ.length (SO.list ([] ++ [V.tup [tv t, V.bool false]]))) G := fun h => by
    rw [h] at hG
    refine put _ (hG _ ?_ ?_)
    · exact ag_new (Ag.set _ _ _)
    · exact get_set_eq h0
  have no : (src && inA t src q) = false → exs (ev tab 60) ((b_law_waiting.1.drop 6).take 1) (waR t src q tr [(("rows" : Str), V.ref σ.length)]) (σ ++ [SO.list []]) G := fun h => by
    rw [h] at hG
    exact put _ (hG _ (Ag.app _ _ _) h0)
  clear hG put
  refine exs_cut 2 fun G2 hG2 _ => ?_
  have yes := fun h => hG2 _ _ (yes h)
  have no := fun h => hG2 _ _ (no h)
  clear hG2
  cases src with
  | false =>
    walk_at "sw"
    exact no rfl
  | true =>
    obtain ⟨lohi, ports, net⟩ := q
    cases hf : fits t true ports with
    | false =>
      have no := no (by simp [inA, hf])
      unfold waR at no ⊢
      simp only [hf] at no ⊢
      walk_at "sw"
      exact no
    | true =>
      cases lohi with
      | none =>
        have yes := yes (by simp [inA, hf])
        unfold waR at yes ⊢
        simp only [hf] at yes ⊢
        walk_at "sw"
        first | refine oP_of h0 ?_ | rw [h0]
        walk_at "sw"
        first | refine oP_of h0 ?_ | rw [h0]
        walk_at "sw"
        exact yes
      | some l =>
        unfold waR at yes no ⊢
        simp only [hf] at yes no ⊢
        walk_at "sw"
        refine ifB_of (fun h1 => ?_) (fun h1 => ?_)
        · walk_at "sw"
          refine ifB_of (fun h2 => ?_) (fun h2 => ?_)
          · have h1 : decide (l.1 ≤ adr t true) = true := h1
            have h2 : decide (adr t true ≤ l.2) = true := h2
            have yes := yes (by simp only [inA, hf, h1, h2]; rfl)
            walk_at "sw"
            first | refine oP_of h0 ?_ | rw [h0]
            walk_at "sw"
            first | refine oP_of h0 ?_ | rw [h0]
            walk_at "sw"
            exact yes
          · have h2 : decide (adr t true ≤ l.2) = false := h2
            have no := no (by simp only [inA, hf, h2, Bool.and_false, Bool.false_and])
            walk_at "sw"
            exact no
        · have h1 : decide (l.1 ≤ adr t true) = false := h1
          have no := no (by simp only [inA, hf, h1, Bool.and_false, Bool.false_and])
          walk_at "sw"
          exact no

theorem wait_C {σ0 σ : SH} {K : KE} {t put : Tu} {src : Bool} {q : Rq} {tr : Int} {A : List (Tu × Bool)} (hq : RqOk q) (htr : 1 ≤ tr ∧ tr ≤ 100) (hA : Ag [] σ0 σ) (hrow : σ[σ0.length]? = some (.list (wv A))) (hlen : A.length ≤ 1) (hpl : placeI put src = placeI t src)
    (hK : ∀ k σ', Ag [] σ0 σ' → σ'[k]? = some (.list (wv (A ++ (if fits t src q.ports then [(put, sure q)] else []) ++ (match spanP put src q with | none => [(put, true)] | some p => roundL put src p.1 p.2 tr)))) → σ0.length ≤ k → K (.ref k) σ') :
    exs (ev tab 60) (b_law_waiting.1.drop 7) (waR t src q tr [(("rows" : Str), V.ref σ0.length), (("put" : Str), tv put)]) σ (retK K) := by
  have last : ∀ (A' : List (Tu × Bool)) σ1, A'.length ≤ 2 → Ag [] σ0 σ1 → σ1[σ0.length]? = some (.list (wv A')) →
      (∀ k σ', Ag [] σ0 σ' → σ'[k]? = some (.list (wv (A' ++ (match spanP put src q with | none => [(put, true)] | some p => roundL put src p.1 p.2 tr)))) → σ0.length ≤ k → K (.ref k) σ') →
      exs (ev tab 60) (b_law_waiting.1.drop 8) (waR t src q tr [(("rows" : Str), V.ref σ0.length), (("put" : Str), tv put)]) σ1 (retK K) := by
    intro A' σ1 hl' hA1 hrow1 hK
    have h0 : ∃ n, n = σ0.length := ⟨_, rfl⟩
    walk_at "sw"
    refine ⟨put, src, q, tr, by rw [hpl], htr, hq, fun k σ2 A2 hk => ?_⟩
    have hrow2 := A2.2 _ _ hrow1 (fun q => nomatch q)
    have hA2 := hA1.trans A2
    have hlt : σ0.length < σ2.length := Nat.lt_of_lt_of_le (List.getElem?_eq_some_iff.mp hrow1).1 A2.1
    cases hs : spanP put src q with
    | none =>
      rw [hs] at hk hK
      have hk : σ2[k]? = some (.list (([] : List Tu).map tv)) := hk
      walk_at "sw"
      generalize hσ3 : σ2 ++ [SO.list []] = σ3
      have hk3 := app' hσ3 hk
      have hr3 := app' hσ3 hrow2
      have hn3 : σ3[σ2.length]? = some (.list (([] : List Tu).map tv)) := by rw [← hσ3]; exact get_new
      have A3 : Ag [] σ0 σ3 := by rw [← hσ3]; exact hA2.trans (Ag.app _ _ _)
      refine oP_of (pyOf_tvs hk3) (oP_of (pyOf_tvs hn3) ?_)
      refine ck_of (c := _ ∧ _) ⟨shaped_tds _, shaped_tds _⟩ ?_
      walk_at "sw"
      refine oP_of (get_app hr3) (oP_of get_new ?_)
      refine ⟨by simp only [wv, List.length_map, List.length_singleton]; omega, ?_⟩
      walk_at "sw"
      refine hK _ _ (A3.trans ((Ag.app _ _ _).trans (Ag.app _ _ _))) ?_ ?_
      · rw [get_new]
        simp only [wv, List.map_append, List.map_cons, List.map_nil]
      · have := A3.1; rw [List.length_append]; omega
    | some p =>
      obtain ⟨lo, hi⟩ := p
      rw [hs] at hk hK
      have hle := span_le hs
      have hne := round_ne (t := put) (src := src) hle htr.1
      have hflag : ∀ c ∈ roundL put src lo hi tr, c.2 = false := fun c hc => by
        obtain ⟨k, _, rfl⟩ := List.mem_map.mp hc
        rfl
      have hrl : (roundL put src lo hi tr).length ≤ 100 := by
        unfold roundL
        rw [List.length_map, List.length_range]; omega
      have hK : ∀ k σ', Ag [] σ0 σ' → σ'[k]? = some (.list (wv (A' ++ roundL put src lo hi tr))) → σ0.length ≤ k → K (.ref k) σ' := hK
      have hk : σ2[k]? = some (.list ((roundL put src lo hi tr).map fun (c : Tu × Bool) => tv c.1)) := hk
      generalize roundL put src lo hi tr = R at hk hK hne hflag hrl
      have hk : σ2[k]? = some (.list ((R.map (·.1)).map tv)) := by rw [hk, List.map_map]; rfl
      walk_at "sw"
      generalize hσ3 : σ2 ++ [SO.list []] = σ3
      have hk3 := app' hσ3 hk
      have hr3 := app' hσ3 hrow2
      have hn3 : σ3[σ2.length]? = some (.list (([] : List Tu).map tv)) := by rw [← hσ3]; exact get_new
      have A3 : Ag [] σ0 σ3 := by rw [← hσ3]; exact hA2.trans (Ag.app _ _ _)
      refine oP_of (pyOf_tvs hk3) (oP_of (pyOf_tvs hn3) ?_)
      refine ck_of (c := _ ∧ _) ⟨shaped_tds _, shaped_tds _⟩ ?_
      have hz : PyData.eqv (.list ((R.map (·.1)).map td)) (.list (([] : List Tu).map td)) = false := by
        cases R with
        | nil => exact absurd rfl hne
        | cons c R => simp only [List.map_cons, List.map_nil, PyData.eqv, PyData.eqvAll]
      first | refine oP_of hz ?_ | rw [hz]
      walk_at "sw"
      first | refine oP_of hk3 ?_ | rw [hk3]
      walk_at "sw"
      refine ⟨⟨trivial, ?_⟩, ?_⟩
      · show ((R.map (·.1)).map tv).length ≤ 1000
        rw [List.length_map, List.length_map]; omega
      refine comp_map (f := fun v => .tup [v, .bool false]) hk3 (fun v G hG => ?_) _ _ _ (.inl rfl) ?_
      · walk_at "sw"
        exact hG
      · have e1 : wv A' ++ ((R.map (·.1)).map tv).map (fun v => V.tup [v, .bool false]) = wv (A' ++ R) := by
          unfold wv
          rw [List.map_append, List.map_map, List.map_map]
          congr 1
          refine List.map_congr_left fun c hc => ?_
          show V.tup [tv c.1, .bool false] = V.tup [tv c.1, .bool c.2]
          first | refine oP_of (hflag c hc) ?_ | rw [hflag c hc]
        walk_at "sw"
        refine oP_of (get_app hr3) (oP_of get_new ?_)
        refine ⟨by simp only [wv, Src.items, List.length_map]; omega, ?_⟩
        walk_at "sw"
        refine hK _ _ (A3.trans ((Ag.app _ _ _).trans (Ag.app _ _ _))) ?_ ?_
        · rw [get_new, ← e1]; rfl
        · have := A3.1; rw [List.length_append]; omega
  refine exs_cut 1 fun G hG _ => ?_
  have last := fun A' σ1 a b c d => hG _ _ (last A' σ1 a b c d)
  clear hG
  cases hf : fits t src q.ports with
  | false =>
    simp only [hf, Bool.false_eq_true, if_false, List.append_nil] at hK
    have last := last A σ (by omega) hA hrow hK
    unfold waR at last ⊢
    simp only [hf] at last ⊢
    walk_at "sw"
    exact last
  | true =>
    simp only [hf, if_true] at hK
    have last := fun σ1 => last (A ++ [(put, sure q)]) σ1 (by rw [List.length_append, List.length_singleton]; omega)
    have e1 : wv A ++ [V.tup [tv put, V.bool (sure q)]] = wv (A ++ [(put, sure q)]) := by unfold wv; rw [List.map_append]; rfl
    have fin : (∀ σ1, σ1 = σ.set σ0.length (.list (wv A ++ [V.tup [tv put, V.bool (sure q)]])) → G .next (waR t src q tr [(("rows" : Str), V.ref σ0.length), (("put" : Str), tv put)]) σ1) := by
      rintro σ1 rfl
      refine last _ ⟨by rw [List.length_set]; exact hA.1, fun j o hj _ => ?_⟩ ?_ hK
      · refine get_set_ne (hA.2 j o hj (fun q => nomatch q)) fun q => ?_
        have := (List.getElem?_eq_some_iff.mp hj).1
        omega
      · rw [get_set_eq hrow, e1]
    clear last
    obtain ⟨lohi, ports, net⟩ := q
    unfold waR at fin ⊢
    simp only [hf] at fin ⊢
    cases ports with
    | none =>
      walk_at "sw"
      first | refine oP_of hrow ?_ | rw [hrow]
      walk_at "sw"
      first | refine oP_of hrow ?_ | rw [hrow]
      walk_at "sw"
      refine ⟨by simp only [wv, List.length_map]; omega, ?_⟩
      walk_at "sw"
      exact fin _ rfl
    | some p =>
      walk_at "sw"
      first | refine oP_of hrow ?_ | rw [hrow]
      walk_at "sw"
      first | refine oP_of hrow ?_ | rw [hrow]
      walk_at "sw"
      refine ⟨by simp only [wv, List.length_map]; omega, ?_⟩
      walk_at "sw"
      have e2 : PyData.eqv (.int p.1) (.int p.2) = sure ⟨lohi, some p, net⟩ := by rw [eqv_int]; rfl
      first | refine oP_of e2 ?_ | rw [e2]
      exact fin _ rfl

theorem d_l_waiting : Does tab 60 fd_law_waiting.1 b_law_waiting.1 P_l_waiting := by
  rintro vs σ K ⟨t, src, q, tr, rfl, htr, hq, hK⟩
  refine ⟨rfl, ?_⟩
  refine exs_cut 4 fun G hG _ => ?_
  refine wait_A (hG _ _ ?_)
  refine exs_cut 3 fun G2 hG2 _ => ?_
  refine wait_B hq fun σ' A' h => hG2 _ _ ?_
  have e : b_law_waiting.1.drop 7 = (b_law_waiting.1.drop 4).drop 3 := by rw [List.drop_drop]
  rw [← e]
  refine wait_C hq htr A' h ?_ place_setA fun k σ2 A2 hk hkl => ?_
  · split <;> simp
  · refine hK k σ2 A2 ?_ hkl
    rw [hk, wait_split, List.append_assoc]
    all_goals rfl
end

section
open PySem PySem.W
open scoped Classical

theorem putD_new {k v : V} : ∀ {l : List (V × V)}, (∀ p ∈ l, p.1 ≠ k) → putD k v l = l ++ [(k, v)]
  | [], _ => rfl
  | p :: r, h => by
    show (if V.beq p.1 k then (p.1, v) :: r else p :: putD k v r) = _
    rw [if_neg (fun q => h p List.mem_cons_self ((V.beq_iff _ _).mp q)), putD_new fun q hq => h q (List.mem_cons_of_mem _ hq)]
    rfl
theorem look_none {k : V} : ∀ {l : List (V × V)}, (∀ p ∈ l, p.1 ≠ k) → look k l = none
  | [], _ => rfl
  | p :: r, h => by rw [look_ne (h p List.mem_cons_self), look_none fun q hq => h q (List.mem_cons_of_mem _ hq)]
theorem tab_app (L : List Rc) (r : Rc) : tabOf (L ++ [r]) = (tabOf L ++ [(zk (origT r), .tup [.int r.num, .int 0])]) ++ [(zk r.key, .tup [.int r.num, .int 1])] := by
  unfold tabOf
  rw [List.flatMap_append, List.append_assoc]; rfl
theorem talks_app (L : List Rc) (r : Rc) : talksOf (L ++ [r]) = talksOf L ++ [(.int r.num, .ref r.ref)] := by
  unfold talksOf
  rw [List.map_append]; rfl
theorem live_app (L : List Rc) (r : Rc) (h : r.gone = false) : live (L ++ [r]) = live L ++ [r] := by
  unfold live
  rw [List.filter_append, List.filter_cons_of_pos (by rw [h]; rfl)]; rfl
theorem live_mem {rs : List Rc} {r : Rc} (h : r ∈ live rs) : r ∈ rs := (List.mem_filter.mp h).1
theorem OthW.low {σ : SH} {o : Nat} {rs : List Rc} (W : OthW σ o rs) {q : Rc} (h : q ∈ rs) : 100 ≤ q.num ∧ q.num < 100 + rs.length := by
  obtain ⟨i, hi, e⟩ := List.mem_iff_getElem.mp h
  have := W.nums i q (by rw [List.getElem?_eq_getElem hi, e])
  omega
theorem seq_at {vs : List V} {i : Nat} {j : Int} {v : V} {K : V → Prop} (hj : j = (i : Int)) (h : vs[i]? = some v) (hK : K v) : (oP (seqIndex? j vs.length) fun n => oP vs[n]? K) := by
  subst hj
  have hi := (List.getElem?_eq_some_iff.mp h).1
  have e : seqIndex? (i : Int) vs.length = some i := by
    simp only [seqIndex?, if_neg (show ¬ (i : Int) < 0 by omega)]
    rw [if_pos (by rw [Bool.and_eq_true, decide_eq_true_eq, decide_eq_true_eq]; omega)]
    rfl
  exact oP_of e (oP_of h hK)

/-- a record more -/
theorem fill_add {σ σ' : SH} {p r o : Nat} {B : Bk} {rs : List Rc} {rc : Rc} (P : PenW σ p r) (W : BookW σ B (live rs)) (O : OthW σ o rs) (hl : rs.length ≤ 24) (hne : o ≠ B.tb ∧ o ≠ B.tk ∧ o ≠ B.fl ∧ o ≠ p ∧ B.tb ≠ p ∧ B.tk ≠ p)
    (A : Ag [B.tb, B.tk, o] σ σ') (h1 : σ'[B.tk]? = some (.dict (talksOf (live rs ++ [rc])))) (h2 : σ'[B.tb]? = some (.dict (tabOf (live rs ++ [rc])))) (h3 : σ'[o]? = some (.dict ((rs ++ [rc]).map fun r => (tv r.key, .ref r.row))))
    (h4 : σ'[rc.ref]? = some (.inst 122 (talkAs rc.num (tv (origT rc)) (tv rc.key) (if rc.alive then 9 else 5) 0))) (h5 : σ'[rc.row]? = some (.list [.int rc.num, .bool rc.alive]))
    (hn : rc.num = 100 + (rs.length : Int)) (hg : rc.gone = false) (hk : ∀ q ∈ rs, q.key ≠ rc.key) (hs : 1000 ≤ rc.key.sa) :
    PenW σ' p r ∧ BookW σ' B (live (rs ++ [rc])) ∧ OthW σ' o (rs ++ [rc]) := by
  obtain ⟨hpr, rest, row, hp, hr, hrow⟩ := P
  obtain ⟨trk, ex, hb, hex, hpn⟩ := W.book
  have keep : ∀ i x, σ[i]? = some x → (∀ d, x ≠ SO.dict d) → σ'[i]? = some x := fun i x h hx => A.2 i x h fun hm => by
    simp only [List.mem_cons, List.not_mem_nil, or_false] at hm
    rcases hm with rfl | rfl | rfl
    · rw [W.table] at h; exact hx _ (Option.some.inj h).symm
    · rw [W.talks] at h; exact hx _ (Option.some.inj h).symm
    · rw [O.oth] at h; exact hx _ (Option.some.inj h).symm
  refine ⟨⟨hpr, rest, row, A.2 _ _ hp ?_, keep _ _ hr (fun _ e => nomatch e), hrow⟩, ?_, ?_⟩
  · simp only [List.mem_cons, List.not_mem_nil, or_false]
    rintro (h | h | h)
    · exact hne.2.2.2.2.1 h.symm
    · exact hne.2.2.2.2.2 h.symm
    · exact hne.2.2.2.1 h.symm
  · rw [live_app _ _ hg]
    refine ⟨⟨trk, ex, keep _ _ hb (fun _ e => nomatch e), keep _ _ hex (fun _ e => nomatch e), hpn.1, Nat.lt_of_lt_of_le hpn.2 A.1⟩, h2, h1, A.2 _ _ W.flows ?_, ?_, W.ne, ?_, ?_, ?_, ?_⟩
    · simp only [List.mem_cons, List.not_mem_nil, or_false]
      rintro (h | h | h)
      · exact W.ne.2.1 h
      · exact W.ne.2.2 h
      · exact hne.2.2.1 h.symm
    · intro q hq
      rcases List.mem_append.mp hq with hq | hq
      · exact keep _ _ (W.each q hq) (fun _ e => nomatch e)
      · obtain rfl := List.mem_singleton.mp hq
        exact h4
    · rw [List.map_append, List.nodup_append]
      refine ⟨W.nums, by simp, fun a ha b hb e => ?_⟩
      obtain ⟨q, hq, rfl⟩ := List.mem_map.mp ha
      obtain rfl : b = rc.num := by simpa using hb
      have := O.low (live_mem hq)
      omega
    · rw [List.map_append, List.nodup_append]
      refine ⟨W.keys, by simp, fun a ha b hb e => ?_⟩
      obtain ⟨q, hq, rfl⟩ := List.mem_map.mp ha
      obtain rfl : b = rc.key := by simpa using hb
      exact hk q (live_mem hq) e
    · intro q hq
      rcases List.mem_append.mp hq with hq | hq
      · exact W.low q hq
      · obtain rfl := List.mem_singleton.mp hq
        exact ⟨by omega, by omega, hs⟩
    · have : (live rs).length ≤ rs.length := List.length_filter_le _ _
      rw [List.length_append, List.length_singleton]; omega
  · refine ⟨h3, ?_, ?_, ?_, ?_⟩
    · intro q hq
      rcases List.mem_append.mp hq with hq | hq
      · exact keep _ _ (O.each q hq) (fun _ e => nomatch e)
      · obtain rfl := List.mem_singleton.mp hq
        rw [hg]; exact h5
    · intro i q hq
      rcases Nat.lt_or_ge i rs.length with h | h
      · rw [List.getElem?_append_left h] at hq
        exact O.nums i q hq
      · rw [List.getElem?_append_right h] at hq
        have hi : i - rs.length = 0 := by
          have := (List.getElem?_eq_some_iff.mp hq).1
          simp at this; omega
        rw [hi] at hq
        obtain rfl : rc = q := by simpa using hq
        omega
    · rw [List.map_append, List.nodup_append]
      refine ⟨O.keys, by simp, fun a ha b hb e => ?_⟩
      obtain ⟨q, hq, rfl⟩ := List.mem_map.mp ha
      obtain rfl : b = rc.key := by simpa using hb
      exact hk q hq e
    · intro q hq
      rcases List.mem_append.mp hq with hq | hq
      · exact O.ok q hq
      · obtain rfl := List.mem_singleton.mp hq
        exact ⟨hs, fun h => by rw [hg] at h; cases h⟩

theorem look_some {q : Rc} : ∀ {rs : List Rc}, q ∈ rs → ∃ x, look (tv q.key) (rs.map fun r => (tv r.key, V.ref r.row)) = some x
  | r :: rs, h => by
    by_cases e : r.key = q.key
    · exact ⟨_, look_eq (congrArg tv e)⟩
    · rcases List.mem_cons.mp h with rfl | h
      · exact absurd rfl e
      · obtain ⟨x, hx⟩ := look_some h
        exact ⟨x, (look_ne fun z => e (tv_inj z)).trans hx⟩
theorem fits_oth (t : Tu) (rs : List Rc) : KeyFits (tv t) (rs.map fun r => (tv r.key, V.ref r.row)) := ⟨(fun e : 3 = 0 => nomatch e), fun p hp => by
  obtain ⟨r, _, rfl⟩ := List.mem_map.mp hp
  rfl⟩
theorem pow_ok {i : Nat} {j : Int} (hj : j = (i : Int)) (h : i < 8) : (3 : Int) ^ j.toNat ≠ 0 ∧ ((3 : Int) ^ j.toNat).natAbs < 2 ^ 60 := by
  subst hj
  rw [Int.toNat_natCast]
  have : ∀ i : Fin 8, (3 : Int) ^ i.val ≠ 0 ∧ ((3 : Int) ^ i.val).natAbs < 2 ^ 60 := by decide
  exact this ⟨i, h⟩
noncomputable def fiR (p : Nat) (B : Bk) (w o : Nat) (mask : Int) (sp : List (Str × V)) : Loc := ⟨fd_law_fill.1.scope, (nsOf fd_law_fill.1).zip [.ref p, .ref B.b, .ref w, .ref o] ++ [(("mask" : Str), V.int mask)] ++ sp⟩
noncomputable def FiS (sp : List (Str × V)) : Prop := sp = [] ∨ (∃ a b c, sp = [(("place" : Str), a), (("sort" : Str), b), (("key" : Str), c)]) ∨ ∃ a b c d e, sp = [(("place" : Str), a), (("sort" : Str), b), (("key" : Str), c), (("number" : Str), d), (("talk" : Str), e)]

noncomputable def forBody : Stmt → List Stmt
  | .For _ _ b _ _ => b
  | _ => []
noncomputable def forAt (b : List Stmt) (n : Nat) : List Stmt := match b[n]? with
  | some s => forBody s
  | none => []
noncomputable def b_fl : { b : List Stmt // forAt b_law_fill.1 1 = b } := by
  refine ⟨?b, ?h⟩
  rotate_left
  conv => lhs; whnf
theorem exs_cut2 {r : Rec} {K : KS} {b : List Stmt} {ρ : Loc} {σ : SH} (n : Nat) (h : ∀ G : KS, (∀ ρ1 σ1, exs r (b.drop n) ρ1 σ1 K → G .next ρ1 σ1) → (∀ v ρ1 σ1, K (.ret v) ρ1 σ1 → G (.ret v) ρ1 σ1) → (∀ ρ1 σ1, K .cont ρ1 σ1 → G .cont ρ1 σ1) → exs r (b.take n) ρ σ G) : exs r b ρ σ K := by
  have e := exs_app r K (b.drop n) (b.take n) ρ σ
  rw [List.take_append_drop] at e
  first | refine oP_of e ?_ | rw [e]
  exact h _ (fun _ _ q => q) (fun _ _ _ q => q) fun _ _ q => q

theorem fill_A {p : Nat} {B : Bk} {w o : Nat} {ws : List (Tu × Bool)} {mask : Int} {rs : List Rc} {i : Nat} {j : Int} {c : Tu × Bool} {σ : SH} {sp : List (Str × V)} {G : KS} (hj : j = (i : Int)) (hj8 : 0 ≤ j ∧ j < 8) (hi : ws[i]? = some c) (hi8 : i < 8) (hc : Dom c.1) (hw : σ[w]? = some (.list (wv ws)))
    (hO : OthW σ o rs) (hsp : sp = [] ∨ (∃ b c, sp = [(("sort" : Str), b), (("key" : Str), c)]) ∨ ∃ b c d e, sp = [(("sort" : Str), b), (("key" : Str), c), (("number" : Str), d), (("talk" : Str), e)])
    (hcont : ∀ σ' sp', Ag [] σ σ' → FiS sp' → G .cont (fiR p B w o mask sp') σ')
    (hnext : ∀ σ' s sp', Ag [] σ σ' → (∀ q ∈ rs, q.key ≠ inv c.1) → (sp' = [] ∨ ∃ d e, sp' = [(("number" : Str), d), (("talk" : Str), e)]) → G .next (fiR p B w o mask ([(("place" : Str), V.int j), (("sort" : Str), V.int s), (("key" : Str), tv (inv c.1))] ++ sp')) σ') :
    exs (ev tab 59) (b_fl.1.take 2) (fiR p B w o mask ((("place" : Str), V.int j) :: sp)) σ G := by
  have hv : (wv ws)[i]? = some (.tup [tv c.1, .bool c.2]) := by
    unfold wv
    rw [List.getElem?_map, hi]; rfl
  have hkey : ∀ σ', Ag [] σ σ' → σ'[o]? = some (.dict (rs.map fun r => (tv r.key, .ref r.row))) := fun σ' A => A.2 _ _ hO.oth (fun q => nomatch q)
  have hlk : (look (tv (inv c.1)) (rs.map fun r => (tv r.key, V.ref r.row))).isSome = false → ∀ q ∈ rs, q.key ≠ inv c.1 := fun h q hq e => by
    have : ∃ x, look (tv (inv c.1)) (rs.map fun r => (tv r.key, V.ref r.row)) = some x := by
      rw [← e]
      exact look_some hq
    obtain ⟨x, hx⟩ := this
    rw [hx] at h
    cases h
  rcases hsp with rfl | ⟨x, y, rfl⟩ | ⟨x, y, d, e, rfl⟩
  all_goals
    walk_at "sw"
    first | refine oP_of hw ?_ | rw [hw]
    walk_at "sw"
    refine ck_of (c := fit64 _ = true) (fit64_of (by omega) (by omega)) (seq_at hj hv ?_)
    walk_at "sw"
    refine ⟨c.1, rfl, hc, fun σ2 A2 => ?_⟩
    have hk2 := hkey σ2 A2
    walk_at "sw"
    refine ⟨pow_ok hj hi8, ?_⟩
    walk_at "sw"
    refine ifB_of (fun h1 => ?_) (fun h1 => ?_)
    · walk_at "sw"
      exact hcont σ2 _ A2 (by first | exact .inr (.inl ⟨_, _, _, rfl⟩) | exact .inr (.inr ⟨_, _, _, _, _, rfl⟩))
    · walk_at "sw"
      first | refine oP_of hk2 ?_ | rw [hk2]
      walk_at "sw"
      refine ⟨fits_oth _ _, ?_⟩
      refine ifB_of (fun h2 => ?_) (fun h2 => ?_)
      · walk_at "sw"
        exact hcont σ2 _ A2 (by first | exact .inr (.inl ⟨_, _, _, rfl⟩) | exact .inr (.inr ⟨_, _, _, _, _, rfl⟩))
      · walk_at "sw"
        first
          | exact hnext σ2 _ [] A2 (hlk h2) (.inl rfl)
          | exact hnext σ2 _ [_, _] A2 (hlk h2) (.inr ⟨_, _, rfl⟩)

theorem fill_B {p r : Nat} {B : Bk} {w o : Nat} {mask : Int} {rs : List Rc} {j s : Int} {k : Tu} {σ : SH} {sp : List (Str × V)} {G : KS} (hP : PenW σ p r) (hB : BookW σ B (live rs)) (hO : OthW σ o rs) (hl : rs.length ≤ 24)
    (hne : o ≠ B.tb ∧ o ≠ B.tk ∧ o ≠ B.fl ∧ o ≠ p ∧ B.tb ≠ p ∧ B.tk ≠ p) (hk : ∀ q ∈ rs, q.key ≠ k) (hs : 1000 ≤ k.sa) (hsp : sp = [] ∨ ∃ d e, sp = [(("number" : Str), d), (("talk" : Str), e)])
    (hG : ∀ rc σ' sp', PenW σ' p r → BookW σ' B (live (rs ++ [rc])) → OthW σ' o (rs ++ [rc]) → (σ.length ≤ rc.row ∧ σ.length ≤ rc.ref) → Ag [p, r, B.tb, B.tk, o] σ σ' → FiS sp' → G .next (fiR p B w o mask sp') σ') :
    exs (ev tab 59) (b_fl.1.drop 2) (fiR p B w o mask ([(("place" : Str), V.int j), (("sort" : Str), V.int s), (("key" : Str), tv k)] ++ sp)) σ G := by
  obtain ⟨n, hn⟩ : ∃ n : Int, n = 100 + (rs.length : Int) := ⟨_, rfl⟩
  obtain ⟨trk, ex, hbk, hex, hpn⟩ := hB.book
  have hlt : o < σ.length := (List.getElem?_eq_some_iff.mp hO.oth).1
  have htb : B.tb < σ.length := (List.getElem?_eq_some_iff.mp hB.table).1
  have htk : B.tk < σ.length := (List.getElem?_eq_some_iff.mp hB.talks).1
  have hb0 : B.b ≠ B.tb := ne_of hbk hB.table (fun e => nomatch e)
  have hb1 : B.b ≠ B.tk := ne_of hbk hB.talks (fun e => nomatch e)
  have hb2 : B.b ≠ o := ne_of hbk hO.oth (fun e => nomatch e)
  have hbl : B.b < σ.length := (List.getElem?_eq_some_iff.mp hbk).1
  obtain ⟨og, hog⟩ : ∃ og : Tu, og = ⟨k.nf, k.pr, n, 9, 9, 9⟩ := ⟨_, rfl⟩
  -- the later part
  have later : ∀ σ1, σ1 = σ ++ [SO.inst 122 (talkAs n (tv og) (tv k) 0 0)] → exs (ev tab 59) (b_fl.1.drop 4) (fiR p B w o mask ([(("place" : Str), V.int j), (("sort" : Str), V.int s), (("key" : Str), tv k)] ++ [(("number" : Str), V.int n), (("talk" : Str), V.ref σ.length)])) σ1 G := by
    intro σ1 hσ1
    have hbk1 : σ1[B.b]? = some (.inst 144 (bookAs B trk ex)) := by rw [hσ1]; exact get_app hbk
    have htk1 : σ1[B.tk]? = some (.dict (talksOf (live rs))) := by rw [hσ1]; exact get_app hB.talks
    have htb1 : σ1[B.tb]? = some (.dict (tabOf (live rs))) := by rw [hσ1]; exact get_app hB.table
    have ho1 : σ1[o]? = some (.dict (rs.map fun r => (tv r.key, .ref r.row))) := by rw [hσ1]; exact get_app hO.oth
    have hme1 : σ1[σ.length]? = some (.inst 122 (talkAs n (tv og) (tv k) 0 0)) := by rw [hσ1]; exact get_new
    have A1 : Ag [σ.length] (σ ++ [SO.inst 122 (talkAs n (tv og) (tv k) 0 0)]) σ1 := by rw [hσ1]; exact Ag.refl _ _
    clear hσ1
    obtain ⟨m, hm⟩ : ∃ m, m = σ.length := ⟨_, rfl⟩
    rw [← hm] at hme1 A1 ⊢
    obtain ⟨al, hal⟩ : ∃ al, al = PyData.eqv (.int s) (.int 1) := ⟨_, rfl⟩
    have go : ∀ σ2, σ1.set m (.inst 122 (talkAs n (tv og) (tv k) (if al then 9 else 5) 0)) = σ2 → exs (ev tab 59) (b_fl.1.drop 5) (fiR p B w o mask ([(("place" : Str), V.int j), (("sort" : Str), V.int s), (("key" : Str), tv k)] ++ [(("number" : Str), V.int n), (("talk" : Str), V.ref m)])) σ2 G := by
      intro σ2 hσ2
      have hbk2 := set_ne' hσ2 hbk1 (by omega)
      have htk2 := set_ne' hσ2 htk1 (by omega)
      have htb2 := set_ne' hσ2 htb1 (by omega)
      have ho2 := set_ne' hσ2 ho1 (by omega)
      have hme2 := set_eq' hσ2 hme1
      have A2 : Ag [m] (σ ++ [SO.inst 122 (talkAs n (tv og) (tv k) 0 0)]) σ2 := by rw [← hσ2]; exact A1.trans (Ag.set _ _ _)
      clear hσ2 A1 hme1 ho1 htb1 htk1 hbk1
      walk_at "sw"
      first | refine oP_of hbk2 ?_ | rw [hbk2]
      walk_at "sw"
      first | refine oP_of htk2 ?_ | rw [htk2]
      walk_at "sw"
      refine ⟨⟨fits_talks _ _, ?_⟩, ?_⟩
      · rw [talks_len]
        have : (live rs).length ≤ rs.length := List.length_filter_le _ _
        omega
      rw [putD_new (k := V.int n) (l := talksOf (live rs)) (fun q hq e => by
        obtain ⟨x, hx, rfl⟩ := List.mem_map.mp hq
        have := hO.low (live_mem hx)
        have e : x.num = n := V.int.inj e
        omega)]
      generalize hσ3 : σ2.set B.tk _ = σ3
      have hbk3 := set_ne' hσ3 hbk2 (fun e => hb1 e.symm)
      have htk3 := set_eq' hσ3 htk2
      have htb3 := set_ne' hσ3 htb2 (fun e => hB.ne.1 e.symm)
      have ho3 := set_ne' hσ3 ho2 (fun e => hne.2.1 e.symm)
      have hme3 := set_ne' hσ3 hme2 (by omega)
      walk_at "sw"
      first | refine oP_of hbk3 ?_ | rw [hbk3]
      walk_at "sw"
      first | refine oP_of hme3 ?_ | rw [hme3]
      walk_at "sw"
      first | refine oP_of htb3 ?_ | rw [htb3]
      walk_at "sw"
      refine ⟨⟨fits_tab og _, ?_⟩, ?_⟩
      · rw [tab_len]
        have : (live rs).length ≤ rs.length := List.length_filter_le _ _
        omega
      have t1 : ∀ q ∈ tabOf (live rs), q.1 ≠ zk og := fun q hq e => by
        obtain ⟨x, hx, hq⟩ := List.mem_flatMap.mp hq
        have h1 := hO.low (live_mem hx)
        have h2 := hO.ok _ (live_mem hx)
        rcases List.mem_cons.mp hq with rfl | hq
        · have : x.num = n := by rw [hog] at e; exact congrArg Tu.sa (zk_inj e)
          omega
        · obtain rfl := List.mem_singleton.mp hq
          have : x.key.sa = n := by rw [hog] at e; exact congrArg Tu.sa (zk_inj e)
          omega
      have t2 : ∀ q ∈ tabOf (live rs) ++ [(zk og, V.tup [.int n, .int 0])], q.1 ≠ zk k := fun q hq e => by
        rcases List.mem_append.mp hq with hq | hq
        · obtain ⟨x, hx, hq⟩ := List.mem_flatMap.mp hq
          have h1 := hO.low (live_mem hx)
          rcases List.mem_cons.mp hq with rfl | hq
          · have : x.num = k.sa := congrArg Tu.sa (zk_inj e)
            omega
          · obtain rfl := List.mem_singleton.mp hq
            exact hk x (live_mem hx) (zk_inj e)
        · obtain rfl := List.mem_singleton.mp hq
          have : n = k.sa := by rw [hog] at e; exact congrArg Tu.sa (zk_inj e)
          omega
      rw [show putD (V.tup [.int 0, tv og]) (V.tup [.int n, .int 0]) (tabOf (live rs)) = _ from putD_new t1]
      generalize hσ4 : σ3.set B.tb _ = σ4
      have hbk4 := set_ne' hσ4 hbk3 (fun e => hb0 e.symm)
      have htk4 := set_ne' hσ4 htk3 (fun e => hB.ne.1 e)
      have htb4 := set_eq' hσ4 htb3
      have ho4 := set_ne' hσ4 ho3 (fun e => hne.1 e.symm)
      have hme4 := set_ne' hσ4 hme3 (by omega)
      walk_at "sw"
      first | refine oP_of hbk4 ?_ | rw [hbk4]
      walk_at "sw"
      first | refine oP_of htb4 ?_ | rw [htb4]
      walk_at "sw"
      refine ⟨⟨?_, ?_⟩, ?_⟩
      · refine ⟨(fun e : 4 = 0 => nomatch e), fun q hq => ?_⟩
        rcases List.mem_append.mp hq with hq | hq
        · exact (fits_tab k (live rs)).2 q hq
        · obtain rfl := List.mem_singleton.mp hq
          rfl
      · rw [List.length_append, tab_len]
        have : (live rs).length ≤ rs.length := List.length_filter_le _ _
        simp only [List.length_cons, List.length_nil]
        omega
      rw [show putD (V.tup [.int 0, tv k]) (V.tup [.int n, .int 1]) (tabOf (live rs) ++ [(V.tup [.int 0, tv og], V.tup [.int n, .int 0])]) = _ from putD_new t2]
      generalize hσ5 : σ4.set B.tb _ = σ5
      have hbk5 := set_ne' hσ5 hbk4 (fun e => hb0 e.symm)
      have htk5 := set_ne' hσ5 htk4 (fun e => hB.ne.1 e)
      have htb5 := set_eq' hσ5 htb4
      have ho5 := set_ne' hσ5 ho4 (fun e => hne.1 e.symm)
      have hme5 := set_ne' hσ5 hme4 (by omega)
      walk_at "sw"
      rw [← hal]
      generalize hσ6 : σ5 ++ [SO.list [V.int n, V.bool al]] = σ6
      have hbk6 := app' hσ6 hbk5
      have htk6 := app' hσ6 htk5
      have htb6 := app' hσ6 htb5
      have ho6 := app' hσ6 ho5
      have hme6 := app' hσ6 hme5
      have hrw6 : σ6[σ5.length]? = some (.list [V.int n, V.bool al]) := by rw [← hσ6]; exact get_new
      first | refine oP_of ho6 ?_ | rw [ho6]
      walk_at "sw"
      refine ⟨⟨fits_oth _ _, ?_⟩, ?_⟩
      · rw [List.length_map]; omega
      rw [putD_new (k := tv k) (l := rs.map fun r => (tv r.key, V.ref r.row)) (fun q hq e => by
        obtain ⟨x, hx, rfl⟩ := List.mem_map.mp hq
        exact hk x hx (tv_inj e))]
      generalize hσ7 : σ6.set o _ = σ7
      have hbk7 := set_ne' hσ7 hbk6 (fun e => hb2 e.symm)
      have htk7 := set_ne' hσ7 htk6 hne.2.1
      have htb7 := set_ne' hσ7 htb6 hne.1
      have ho7 := set_eq' hσ7 ho6
      have hme7 := set_ne' hσ7 hme6 (by omega)
      have hor : o ≠ σ5.length := ne_of ho6 hrw6 (fun e => nomatch e)
      have hrw7 := set_ne' hσ7 hrw6 hor
      have A7 : Ag [m, B.tb, B.tk, o] (σ ++ [SO.inst 122 (talkAs n (tv og) (tv k) 0 0)]) σ7 := by
        refine (A2.mono (by simp)).trans ?_
        refine Ag.trans (σ' := σ3) ?_ (Ag.trans (σ' := σ4) ?_ (Ag.trans (σ' := σ5) ?_ (Ag.trans (σ' := σ6) ?_ ?_)))
        · rw [← hσ3]; exact (Ag.set _ _ _).mono (by simp)
        · rw [← hσ4]; exact (Ag.set _ _ _).mono (by simp)
        · rw [← hσ5]; exact (Ag.set _ _ _).mono (by simp)
        · rw [← hσ6]; exact Ag.app _ _ _
        · rw [← hσ7]; exact (Ag.set _ _ _).mono (by simp)
      have A7' : Ag [B.tb, B.tk, o] σ σ7 := ⟨Nat.le_trans (by rw [List.length_append]; omega) A7.1, fun i x hi hn => A7.2 i x (get_app hi) fun hm' => by
        rcases List.mem_cons.mp hm' with rfl | hm'
        · have := (List.getElem?_eq_some_iff.mp hi).1
          omega
        · exact hn hm'⟩
      have hlen5 : σ.length ≤ σ5.length := by
        have h1 : σ5.length = σ2.length := by rw [← hσ5, ← hσ4, ← hσ3, List.length_set, List.length_set, List.length_set]
        have h2 := A2.1
        rw [List.length_append] at h2
        omega
      have fin := fill_add (rc := ⟨k, n, al, m, σ5.length, false⟩) hP hB hO (by omega) hne A7' (by rw [talks_app]; exact htk7) (by rw [tab_app]; subst hog; exact htb7) (by rw [List.map_append]; exact ho7) (by subst hog; exact hme7) hrw7 hn rfl hk hs
      walk_at "sw"
      exact hG _ σ7 _ fin.1 fin.2.1 fin.2.2 ⟨hlen5, Nat.le_of_eq hm.symm⟩ (A7'.mono (by simp)) (.inr (.inr ⟨_, _, _, _, _, rfl⟩))
    refine exs_cut2 1 fun G2 hG2 _ _ => ?_
    have go := fun σ2 h => hG2 _ _ (go σ2 h)
    clear hG2 hG
    cases al with
    | true =>
      have go := go _ rfl
      walk_at "sw"
      rw [← hal]
      walk_at "sw"
      first | refine oP_of hme1 ?_ | rw [hme1]
      walk_at "sw"
      exact go
    | false =>
      have go := go _ rfl
      walk_at "sw"
      rw [← hal]
      walk_at "sw"
      first | refine oP_of hme1 ?_ | rw [hme1]
      walk_at "sw"
      exact go
  refine exs_cut2 2 fun G2 hG2 _ _ => ?_
  have later := hG2 _ _ (later _ rfl)
  clear hG2 hG
  have hl2 : (rs.map fun r => (tv r.key, V.ref r.row)).length = rs.length := List.length_map _
  rcases hsp with rfl | ⟨x, y, rfl⟩
  all_goals
    walk_at "sw"
    first | refine oP_of hO.oth ?_ | rw [hO.oth]
    walk_at "sw"
    rw [hl2, ← hn]
    refine ⟨n, og, k, by rw [hog]; rfl, ?_⟩
    walk_at "sw"
    exact later

theorem PenW.ag0 {ks : List Nat} {σ σ' : SH} {p r : Nat} (P : PenW σ p r) (A : Ag ks σ σ') (h1 : p ∉ ks) (h2 : r ∉ ks) : PenW σ' p r := by
  obtain ⟨hne, rest, row, hp, hr, hl⟩ := P
  exact ⟨hne, rest, row, A.2 _ _ hp h1, A.2 _ _ hr h2, hl⟩
theorem OthW.ag0 {ks : List Nat} {σ σ' : SH} {o : Nat} {rs : List Rc} (P : OthW σ o rs) (A : Ag ks σ σ') (h1 : o ∉ ks) (h2 : ∀ q ∈ rs, q.row ∉ ks) : OthW σ' o rs :=
  ⟨A.2 _ _ P.oth h1, fun q hq => A.2 _ _ (P.each q hq) (h2 q hq), P.nums, P.keys, P.ok⟩
theorem no_mem {i : Nat} : i ∉ ([] : List Nat) := fun q => nomatch q
theorem BookW.ag2 {ks : List Nat} {σ σ' : SH} {B : Bk} {L : List Rc} (W : BookW σ B L) (a : Ag ks σ σ') (h : ∀ i ∈ ks, i ∉ foot B L ∧ i ≠ B.fl ∧ (i = B.pn ∨ ∀ o, σ[i]? = some o → o ≠ .list [])) : BookW σ' B L := by
  obtain ⟨trk, ex, hb, hex, hpn⟩ := W.book
  have nf : ∀ i, i ∈ foot B L → i ∉ ks := fun i hi hm => (h i hm).1 hi
  refine ⟨⟨trk, ex, a.2 _ _ hb (nf _ (by simp [foot])), a.2 _ _ hex fun hm => (h ex hm).2.2.elim hpn.1 (fun q => q _ hex rfl), hpn.1, Nat.lt_of_lt_of_le hpn.2 a.1⟩, a.2 _ _ W.table (nf _ (by simp [foot])), a.2 _ _ W.talks (nf _ (by simp [foot])), a.2 _ _ W.flows fun hm => (h _ hm).2.1 rfl,
    fun r hr => a.2 _ _ (W.each r hr) (nf _ ?_), W.ne, W.nums, W.keys, W.low, W.len⟩
  simp only [foot, List.mem_cons, List.mem_map]
  exact .inr (.inr (.inr ⟨r, hr, rfl⟩))
theorem BookW.ag1 {σ σ' : SH} {B : Bk} {L : List Rc} (W : BookW σ B L) (A : Ag [] σ σ') : BookW σ' B L := W.ag A fun _ hi => absurd hi no_mem

/-- what holds between two turns of _law_fill's loop -/
inductive FlJ (p r : Nat) (B : Bk) (w o : Nat) (mask : Int) (N : Nat) (rs0 : List Rc) (σ0 : SH) (vs : List V) (ρ : Loc) (σ' : SH) : Prop
  | mk (i m : Nat) (rs' : List Rc) (sp : List (Str × V)) (e : vs = (List.range' i m).map (fun (k : Nat) => V.int k)) (him : i + m = N) (hsp : FiS sp) (hr : ρ = fiR p B w o mask sp) (hP : PenW σ' p r) (hB : BookW σ' B (live rs')) (hO : OthW σ' o rs')
      (h : rs'.length ≤ rs0.length + i ∧ ∀ q ∈ rs', q ∈ rs0 ∨ (σ0.length ≤ q.row ∧ σ0.length ≤ q.ref)) (hA : Ag [p, r, B.tb, B.tk, o] σ0 σ')
theorem fill_loop {p r : Nat} {B : Bk} {w o : Nat} {ws : List (Tu × Bool)} {K : KE} {mask : Int} {rs0 : List Rc} {σ0 : SH} (hws : ws ≠ [] ∧ ws.length ≤ 1000 ∧ ∀ c ∈ ws, Dom c.1 ∧ Big c.1) (hlen : rs0.length ≤ 16) (hne : o ≠ B.tb ∧ o ≠ B.tk ∧ o ≠ B.fl ∧ o ≠ p ∧ B.tb ≠ p ∧ B.tk ≠ p)
    (hw : ∀ σ', Ag [p, r, B.tb, B.tk, o] σ0 σ' → σ'[w]? = some (.list (wv ws)))
    (hK : ∀ rs' σ', PenW σ' p r → BookW σ' B (live rs') → OthW σ' o rs' → (rs'.length ≤ rs0.length + 8 ∧ ∀ q ∈ rs', q ∈ rs0 ∨ (σ0.length ≤ q.row ∧ σ0.length ≤ q.ref)) → Ag [p, r, B.tb, B.tk, o] σ0 σ' → K .none σ')
    {σ : SH} (hA : Ag [p, r, B.tb, B.tk, o] σ0 σ) (hP : PenW σ p r) (hB : BookW σ B (live rs0)) (hO : OthW σ o rs0) :
    exs (ev tab 60) (b_law_fill.1.drop 1) (fiR p B w o mask []) σ (retK K) := by
  have hw0 := hw σ hA
  walk_at "sw"
  first | refine oP_of hw0 ?_ | rw [hw0]
  walk_at "sw"
  have hwl : (wv ws).length = ws.length := by unfold wv; rw [List.length_map]
  refine ⟨by rw [hwl]; exact hws.2.1, ?_⟩
  walk_at "sw"
  first | refine oP_of hwl ?_ | rw [hwl]
  obtain ⟨N, hn, hNl, hN8⟩ : ∃ N : Nat, (if (8 : Int) < (ws.length : Int) then (8 : Int) else (ws.length : Int)) = (N : Int) ∧ N ≤ ws.length ∧ N ≤ 8 := by
    by_cases h : (8 : Int) < (ws.length : Int)
    · exact ⟨8, if_pos h, Int.ofNat_le.mp (Int.le_of_lt h), Nat.le_refl 8⟩
    · exact ⟨ws.length, if_neg h, Nat.le_refl _, Int.ofNat_le.mp (Int.not_lt.mp h)⟩
  refine ⟨⟨?_, trivial⟩, ?_⟩
  · show (intRow (if (8 : Int) < (ws.length : Int) then (8 : Int) else (ws.length : Int)).toNat).length ≤ 1000
    rw [intRow_len, hn]; exact Nat.le_trans hN8 (by decide)
  refine loop_ind (FlJ p r B w o mask N rs0 σ0) ?_ ?_ _ _ _ ?_
  · rintro ρ σ' ⟨i, m, rs', sp, e, him, hsp, rfl, hP', hB', hO', ⟨h1, h2⟩, hA'⟩
    refine ⟨trivial, ?_⟩
    exact hK rs' σ' hP' hB' hO' ⟨Nat.le_trans h1 (Nat.add_le_add_left (Nat.le_trans (Nat.le_add_right i m) (him ▸ hN8)) _), h2⟩ hA'
  · rintro v rest ρ σ' G hG ⟨i, m, rs', sp, e, him, hsp, rfl, hP', hB', hO', ⟨h1, h2⟩, hA'⟩
    refine ⟨trivial, ?_⟩
    cases m with
    | zero => cases e
    | succ m =>
      rw [List.range'_succ, List.map_cons] at e
      obtain ⟨rfl, rfl⟩ := List.cons.inj e
      have hiN : i < N := by rw [← him]; exact Nat.lt_add_of_pos_right (Nat.succ_pos m)
      have hi : i < ws.length := Nat.lt_of_lt_of_le hiN hNl
      have hi8 : i < 8 := Nat.lt_of_lt_of_le hiN hN8
      obtain ⟨c, hc⟩ : ∃ c, ws[i]? = some c := ⟨_, List.getElem?_eq_getElem hi⟩
      have hcm : c ∈ ws := List.mem_of_getElem? hc
      have hdb := hws.2.2 c hcm
      obtain ⟨j, hj⟩ : ∃ j : Int, j = (i : Int) := ⟨_, rfl⟩
      rw [← hj]
      obtain ⟨sp2, hset, hsp2⟩ : ∃ sp2, (fiR p B w o mask sp).set ("place" : Str) (.int j) = fiR p B w o mask ((("place" : Str), V.int j) :: sp2) ∧ (sp2 = [] ∨ (∃ b c, sp2 = [(("sort" : Str), b), (("key" : Str), c)]) ∨ ∃ b c d e, sp2 = [(("sort" : Str), b), (("key" : Str), c), (("number" : Str), d), (("talk" : Str), e)]) := by
        rcases hsp with rfl | ⟨a, b, c, rfl⟩ | ⟨a, b, c, d, e, rfl⟩
        · exact ⟨[], rfl, .inl rfl⟩
        · exact ⟨_, rfl, .inr (.inl ⟨_, _, rfl⟩)⟩
        · exact ⟨_, rfl, .inr (.inr ⟨_, _, _, _, rfl⟩)⟩
      refine asg_name (by rcases hsp with rfl | ⟨a, b, c, rfl⟩ | ⟨a, b, c, d, e, rfl⟩ <;> rfl) ?_
      first | refine oP_of hset ?_ | rw [hset]
      refine exs_cut2 (b := b_fl.1) 2 fun G2 hG2 _ hG3 => ?_
      refine fill_A hj (by rw [hj]; exact ⟨Int.natCast_nonneg i, Int.ofNat_lt.mpr hi8⟩) hc hi8 hdb.1 (hw σ' hA') hO' hsp2 (fun σ2 sp' A2 hs' => hG3 _ _ ?_) (fun σ2 s sp' A2 hk hs' => hG2 _ _ ?_)
      · exact hG _ _ ⟨i + 1, m, rs', sp', rfl, (Nat.succ_add_eq_add_succ i m).trans him, hs', rfl, hP'.ag0 A2 no_mem no_mem, hB'.ag1 A2, hO'.ag0 A2 no_mem (fun _ _ => no_mem), ⟨Nat.le_succ_of_le h1, h2⟩, hA'.trans (A2.mono (fun _ q => nomatch q))⟩
      · refine fill_B (hP'.ag0 A2 no_mem no_mem) (hB'.ag1 A2) (hO'.ag0 A2 no_mem (fun _ _ => no_mem)) (Nat.le_trans h1 (Nat.add_le_add hlen (Nat.le_of_lt hi8))) hne hk (by rw [inv_sa]; exact hdb.2.2) hs' fun rc σ3 sp3 hP3 hB3 hO3 hrc A3 hs3 => ?_
        refine hG _ _ ⟨i + 1, m, rs' ++ [rc], sp3, rfl, (Nat.succ_add_eq_add_succ i m).trans him, hs3, rfl, hP3, hB3, hO3, ⟨by rw [List.length_append]; exact Nat.succ_le_succ h1, fun q hq => ?_⟩, (hA'.trans (A2.mono (fun _ q => nomatch q))).trans A3⟩
        rcases List.mem_append.mp hq with hq | hq
        · exact h2 q hq
        · obtain rfl := List.mem_singleton.mp hq
          have l := Nat.le_trans hA'.1 A2.1
          exact .inr ⟨Nat.le_trans l hrc.1, Nat.le_trans l hrc.2⟩
  · refine ⟨0, N, rs0, [], ?_, Nat.zero_add N, .inl rfl, rfl, hP, hB, hO, ⟨Nat.le_refl _, fun q hq => .inl hq⟩, hA⟩
    show intRow (if (8 : Int) < (ws.length : Int) then (8 : Int) else (ws.length : Int)).toNat = _
    rw [hn, intRow_map, List.range_eq_range']
    rfl

theorem pen_foot {σ : SH} {p r : Nat} {B : Bk} {L : List Rc} (hP : PenW σ p r) (hB : BookW σ B L) (hpn : B.pn = r) (h : B.tb ≠ p ∧ B.tk ≠ p) (hpf : B.fl ≠ p) : ∀ i, i ∈ [p, r] → i ∉ foot B L ∧ i ≠ B.fl ∧ (i = B.pn ∨ ∀ x, σ[i]? = some x → x ≠ .list []) := by
  obtain ⟨hpr, rest, row, hp, hr, hrow⟩ := hP
  obtain ⟨trk, ex, hbk, hex, _⟩ := hB.book
  intro i hi
  simp only [List.mem_cons, List.not_mem_nil, or_false] at hi
  simp only [foot, List.mem_cons, List.mem_map, not_or]
  rcases hi with rfl | rfl
  · refine ⟨⟨ne_of hp hbk (fun e => nomatch e), h.1.symm, h.2.symm, ?_⟩, hpf.symm, .inr fun x hx e => ?_⟩
    · rintro ⟨q, hq, e⟩
      exact ne_of (hB.each q hq) hp (fun e => nomatch e) e
    · rw [hp] at hx; cases hx; cases e
  · refine ⟨⟨ne_of hr hbk (fun e => nomatch e), ne_of hr hB.table (fun e => nomatch e), ne_of hr hB.talks (fun e => nomatch e), ?_⟩, ne_of hr hB.flows (fun e => nomatch e), .inl hpn.symm⟩
    rintro ⟨q, hq, e⟩
    exact ne_of (hB.each q hq) hr (fun e => nomatch e) e
theorem wv_not {σ : SH} {w r : Nat} {ws : List (Tu × Bool)} {row : List Int} (h : ws ≠ []) (h1 : σ[w]? = some (.list (wv ws))) (h2 : σ[r]? = some (.list (row.map .int))) : w ≠ r := ne_of h1 h2 fun e => by
  have e : wv ws = row.map .int := SO.list.inj e
  cases ws with
  | nil => exact h rfl
  | cons c ws =>
    cases row with
    | nil => cases e
    | cons x row => exact nomatch (List.cons.inj e).1
theorem d_l_fill : Does tab 60 fd_law_fill.1 b_law_fill.1 P_l_fill := by
  rintro vs σ K ⟨p, r, B, w, o, rs, ws, rfl, hP, hB, hO, hw, hws, hlen, hne, ⟨hpn, hpf⟩, hK⟩
  refine ⟨rfl, ?_⟩
  have hP0 := hP
  obtain ⟨hpr, rest, row, hp, hr, hrow⟩ := hP0
  have w1 : w ≠ p := ne_of hw hp (fun e => nomatch e)
  have w2 : w ≠ r := wv_not hws.1 hw hr
  have w3 : w ≠ B.tb := ne_of hw hB.table (fun e => nomatch e)
  have w4 : w ≠ B.tk := ne_of hw hB.talks (fun e => nomatch e)
  have w5 : w ≠ o := ne_of hw hO.oth (fun e => nomatch e)
  have hb := pen_foot hP hB hpn ⟨hne.2.2.2.2.1, hne.2.2.2.2.2⟩ hpf
  have tail : ∀ mask σ1, PenW σ1 p r → Ag [p, r] σ σ1 → exs (ev tab 60) (b_law_fill.1.drop 1) (fiR p B w o mask []) σ1 (retK K) := fun mask σ1 P1 A1 =>
    fill_loop hws hlen hne (fun σ' A => A.2 _ _ hw (by simp [w1, w2, w3, w4, w5])) hK (A1.mono (by simp)) P1 (hB.ag2 A1 hb)
      (hO.ag0 A1 (by
        simp only [List.mem_cons, List.not_mem_nil, or_false, not_or]
        exact ⟨hne.2.2.2.1, ne_of hO.oth hr (fun e => nomatch e)⟩) fun q hq => by
        simp only [List.mem_cons, List.not_mem_nil, or_false, not_or]
        refine ⟨ne_of (hO.each q hq) hp (fun e => nomatch e), ne_of (hO.each q hq) hr (fun e => ?_)⟩
        have e := SO.list.inj e
        match row, e with
        | [], e => cases e
        | [x], e => cases e
        | x :: y :: row, e => exact nomatch (List.cons.inj (List.cons.inj e).2).1)
  refine exs_cut 1 fun G hG _ => ?_
  have tail := fun mask σ1 a b => hG _ _ (tail mask σ1 a b)
  clear hG
  walk_at "sw"
  refine ⟨p, r, _, rfl, hP, by decide, by decide, fun d σ1 h0 h1 W1 A1 => ?_⟩
  walk_at "sw"
  exact tail d σ1 W1 A1
end

section
open PySem PySem.W
open scoped Classical

noncomputable def chR (w o : Nat) (sp : List (Str × V)) : Loc := ⟨fd_law_chosen.1.scope, (nsOf fd_law_chosen.1).zip [.ref w, .ref o] ++ sp⟩
noncomputable def b_ch : { b : List Stmt // forAt b_law_chosen.1 0 = b } := by
  refine ⟨?b, ?h⟩
  rotate_left
  conv => lhs; whnf
noncomputable def ChS (sp : List (Str × V)) : Prop := sp = [] ∨ ∃ a b c, sp = [(("one" : Str), a), (("is_sure" : Str), b), (("known" : Str), c)]

theorem alive_at {σ : SH} {o : Nat} {rs : List Rc} {q : Rc} (O : OthW σ o rs) (h : q ∈ rs) : aliveR rs q.key = q.alive := by
  unfold aliveR
  cases ha : q.alive with
  | true => exact List.any_eq_true.mpr ⟨q, h, by simp [ha]⟩
  | false =>
    refine List.any_eq_false.mpr fun x hx => ?_
    by_cases e : x.key = q.key
    · have : x = q := nodup_inj (·.key) O.keys hx h e
      subst this
      simp [ha]
    · simp [e]
theorem alive_not {rs : List Rc} {k : Tu} (h : ∀ q ∈ rs, q.key ≠ k) : aliveR rs k = false := List.any_eq_false.mpr fun x hx => by simp [h x hx]
theorem look_oth {q : Rc} : ∀ {rs : List Rc}, (rs.map (·.key)).Nodup → q ∈ rs → look (tv q.key) (rs.map fun r => (tv r.key, V.ref r.row)) = some (.ref q.row)
  | r :: rs, O, h => by
    by_cases e : r.key = q.key
    · rcases List.mem_cons.mp h with rfl | h
      · exact look_eq rfl
      · exact absurd (List.mem_map.mpr ⟨q, h, e.symm⟩) (List.nodup_cons.mp O).1
    · rcases List.mem_cons.mp h with rfl | h
      · exact absurd rfl e
      · exact (look_ne fun z => e (tv_inj z)).trans (look_oth (List.nodup_cons.mp O).2 h)
theorem dropR_not {rs : List Rc} {k : Tu} (h : ∀ q ∈ rs, q.key = k → q.alive = true) : dropR k rs = rs := by
  unfold dropR
  conv => rhs; rw [← List.map_id rs]
  refine List.map_congr_left fun q hq => ?_
  split
  · rename_i z
    have := h q hq z.1
    rw [z.2] at this; cases this
  · rfl
theorem dropR_gone {σ : SH} {o : Nat} {rs : List Rc} {q : Rc} (O : OthW σ o rs) (h : q ∈ rs) (hg : q.gone = true) : dropR q.key rs = rs := by
  unfold dropR
  conv => rhs; rw [← List.map_id rs]
  refine List.map_congr_left fun x hx => ?_
  split
  · rename_i z
    have : x = q := nodup_inj (·.key) O.keys hx h z.1
    subst this
    cases x
    simp_all
  · rfl
theorem num_inj {σ : SH} {o : Nat} {rs : List Rc} {x y : Rc} (O : OthW σ o rs) (hx : x ∈ rs) (hy : y ∈ rs) (e : x.num = y.num) : x = y := by
  obtain ⟨i, hi, ei⟩ := List.mem_iff_getElem.mp hx
  obtain ⟨j, hj, ej⟩ := List.mem_iff_getElem.mp hy
  have h1 := O.nums i x (by rw [List.getElem?_eq_getElem hi, ei])
  have h2 := O.nums j y (by rw [List.getElem?_eq_getElem hj, ej])
  have : i = j := by omega
  subst this
  rw [← ei, ej]
theorem rows_inj {σ : SH} {o : Nat} {rs : List Rc} {x y : Rc} (O : OthW σ o rs) (hx : x ∈ rs) (hy : y ∈ rs) (e : x.row = y.row) : x = y := by
  have h1 := O.each x hx
  have h2 := O.each y hy
  rw [e, h2] at h1
  have h3 := (List.cons.inj (SO.list.inj (Option.some.inj h1))).1
  have h3 := V.int.inj h3
  have := O.low hx
  have := O.low hy
  refine num_inj O hx hy ?_
  split at h3 <;> split at h3 <;> omega
/-- the number of a row is turned -/
theorem oth_turn {σ σ' : SH} {o : Nat} {rs : List Rc} {q : Rc} (O : OthW σ o rs) (hq : q ∈ rs) (ha : q.alive = false) (hσ : σ.set q.row (.list [.int (-q.num), .bool false]) = σ') : OthW σ' o (dropR q.key rs) := by
  have e1 : ∀ x : Rc, (if x.key = q.key ∧ x.alive = false then { x with gone := true } else x).key = x.key := fun x => by split <;> rfl
  have e2 : ∀ x : Rc, (if x.key = q.key ∧ x.alive = false then { x with gone := true } else x).row = x.row := fun x => by split <;> rfl
  have e3 : ∀ x : Rc, (if x.key = q.key ∧ x.alive = false then { x with gone := true } else x).num = x.num := fun x => by split <;> rfl
  have hne : q.row ≠ o := ne_of (O.each q hq) O.oth (fun e => nomatch e)
  refine ⟨?_, ?_, ?_, ?_, ?_⟩
  · rw [set_ne' hσ O.oth hne]
    unfold dropR
    rw [List.map_map]
    congr 2
    refine List.map_congr_left fun x hx => ?_
    simp only [Function.comp, e1, e2]
  · intro x hx
    obtain ⟨y, hy, rfl⟩ := List.mem_map.mp hx
    by_cases e : y.key = q.key
    · have : y = q := nodup_inj (·.key) O.keys hy hq e
      subst this
      rw [if_pos ⟨rfl, ha⟩]
      first | refine oP_of (set_eq' hσ (O.each y hy)) ?_ | rw [set_eq' hσ (O.each y hy)]
      simp [ha]
    · rw [if_neg (fun z => e z.1)]
      refine set_ne' hσ (O.each y hy) fun z => e ?_
      first | refine oP_of (rows_inj O hy hq z.symm) ?_ | rw [rows_inj O hy hq z.symm]
  · intro i x hx
    unfold dropR at hx
    rw [List.getElem?_map] at hx
    obtain ⟨y, hy, rfl⟩ := Option.map_eq_some_iff.mp hx
    first | refine oP_of e3 ?_ | rw [e3]
    exact O.nums i y hy
  · unfold dropR
    rw [List.map_map]
    have : (fun x : Rc => x.key) ∘ (fun r : Rc => if r.key = q.key ∧ r.alive = false then { r with gone := true } else r) = fun x => x.key := funext e1
    rw [show ((fun x => x.key) ∘ fun (r : Rc) => if r.key = q.key ∧ r.alive = false then { r with gone := true } else r) = _ from this]
    exact O.keys
  · intro x hx
    obtain ⟨y, hy, rfl⟩ := List.mem_map.mp hx
    first | refine oP_of e1 ?_ | rw [e1]
    refine ⟨(O.ok y hy).1, ?_⟩
    split
    · rename_i z
      exact fun _ => z.2
    · exact (O.ok y hy).2

theorem seq_last {vs : List V} {v : V} {K : V → Prop} (h : vs.getLast? = some v) (hK : K v) : (oP (seqIndex? (-1) vs.length) fun n => oP vs[n]? K) := by
  have hl : vs ≠ [] := fun e => by rw [e] at h; cases h
  have hp := List.length_pos_iff.mpr hl
  have e : seqIndex? (-1) vs.length = some (vs.length - 1) := by
    simp only [seqIndex?, if_pos (show (-1 : Int) < 0 by omega)]
    rw [if_pos (by rw [Bool.and_eq_true, decide_eq_true_eq, decide_eq_true_eq]; omega)]
    congr 1
    omega
  exact oP_of e (oP_of ((List.getLast?_eq_getElem? ..).symm.trans h) hK)

theorem ch_step {w o : Nat} {rs : List Rc} {c : Tu × Bool} {σ : SH} {sp : List (Str × V)} {G : KS} (hO : OthW σ o rs) (hc : Dom c.1)
    (hsp : sp = [] ∨ ∃ a, sp = [(("known" : Str), a)])
    (h1 : (c.2 = true ∨ aliveR rs (inv c.1) = false ∧ dropR (inv c.1) rs = rs) → ∀ ρ σ', Ag [] σ σ' → G (.ret (tv c.1)) ρ σ')
    (h2 : c.2 = false → aliveR rs (inv c.1) = false → ∀ ρ σ', OthW σ' o (dropR (inv c.1) rs) → Ag (rs.map (·.row)) σ σ' → G (.ret (tv c.1)) ρ σ')
    (h3 : c.2 = false → aliveR rs (inv c.1) = true → ∀ a σ', Ag [] σ σ' → G .next (chR w o [(("one" : Str), tv c.1), (("is_sure" : Str), V.bool c.2), (("known" : Str), a)]) σ') :
    exs (ev tab 43) b_ch.1 (chR w o ([(("one" : Str), tv c.1), (("is_sure" : Str), V.bool c.2)] ++ sp)) σ G := by
  obtain ⟨one, sure⟩ := c
  by_cases hx : ∃ q ∈ rs, q.key = inv one
  · obtain ⟨q, hq, hk⟩ := hx
    have lk := look_oth hO.keys hq
    have al := alive_at hO hq
    rw [hk] at lk al
    dsimp only at h1 h2 h3
    rw [al] at h1 h2 h3
    rcases hsp with rfl | ⟨x, rfl⟩
    all_goals
      walk_at "sw"
      first | refine oP_of hO.oth ?_ | rw [hO.oth]
      walk_at "sw"
      refine ⟨one, rfl, hc, fun σ2 A2 => ?_⟩
      have A3 : Ag [] σ (σ2 ++ [SO.list [.int 0, .bool false]]) := A2.trans (Ag.app _ _ _)
      walk_at "sw"
      generalize σ2 ++ [SO.list [V.int 0, V.bool false]] = σ3 at A3
      have hO3 := hO.ag0 A3 no_mem (fun _ _ => no_mem)
      have hr3 := hO3.each q hq
      first | refine oP_of hO3.oth ?_ | rw [hO3.oth]
      walk_at "sw"
      refine ⟨fits_oth _ _, ?_⟩
      first | refine oP_of lk ?_ | rw [lk]
      cases sure with
      | true =>
        walk_at "sw"
        exact h1 (.inl rfl) _ _ A3
      | false =>
        cases ha : q.alive with
        | true =>
          rw [ha] at hr3
          walk_at "sw"
          first | refine oP_of hr3 ?_ | rw [hr3]
          walk_at "sw"
          exact h3 rfl ha _ _ A3
        | false =>
          rw [ha] at hr3
          have hlow := hO.low hq
          cases hg : q.gone with
          | true =>
            rw [hg] at hr3
            walk_at "sw"
            first | refine oP_of hr3 ?_ | rw [hr3]
            walk_at "sw"
            first | refine oP_of hr3 ?_ | rw [hr3]
            walk_at "sw"
            refine ifB_of (fun h => ?_) (fun h => ?_)
            · have : -q.num > 0 := of_decide_eq_true h
              omega
            · walk_at "sw"
              exact h1 (.inr ⟨ha, by rw [← hk]; exact dropR_gone hO hq hg⟩) _ _ A3
          | false =>
            rw [hg] at hr3
            walk_at "sw"
            first | refine oP_of hr3 ?_ | rw [hr3]
            walk_at "sw"
            first | refine oP_of hr3 ?_ | rw [hr3]
            walk_at "sw"
            refine ifB_of (fun h => ?_) (fun h => ?_)
            · walk_at "sw"
              first | refine oP_of hr3 ?_ | rw [hr3]
              walk_at "sw"
              first | refine oP_of hr3 ?_ | rw [hr3]
              walk_at "sw"
              generalize hσ4 : σ3.set q.row _ = σ4
              walk_at "sw"
              have hO4 := oth_turn hO3 hq ha hσ4
              rw [hk] at hO4
              refine h2 rfl ha _ _ hO4 ((A3.mono (fun _ q => nomatch q)).trans ?_)
              rw [← hσ4]
              refine (Ag.set _ _ _).mono fun i hi => ?_
              obtain rfl := List.mem_singleton.mp hi
              exact List.mem_map.mpr ⟨q, hq, rfl⟩
            · have h : ¬ q.num > 0 := of_decide_eq_false h
              omega
  · have hx : ∀ q ∈ rs, q.key ≠ inv one := fun q hq e => hx ⟨q, hq, e⟩
    have lk : look (tv (inv one)) (rs.map fun r => (tv r.key, V.ref r.row)) = none := look_none fun p hp e => by
      obtain ⟨q, hq, rfl⟩ := List.mem_map.mp hp
      exact hx q hq (tv_inj e)
    have al := alive_not hx
    have dr : dropR (inv one) rs = rs := dropR_not fun q hq e => absurd e (hx q hq)
    rcases hsp with rfl | ⟨x, rfl⟩
    all_goals
      walk_at "sw"
      first | refine oP_of hO.oth ?_ | rw [hO.oth]
      walk_at "sw"
      refine ⟨one, rfl, hc, fun σ2 A2 => ?_⟩
      have A3 : Ag [] σ (σ2 ++ [SO.list [.int 0, .bool false]]) := A2.trans (Ag.app _ _ _)
      walk_at "sw"
      have hn3 : (σ2 ++ [SO.list [V.int 0, V.bool false]])[σ2.length]? = some (.list [V.int 0, V.bool false]) := get_new
      generalize σ2 ++ [SO.list [V.int 0, V.bool false]] = σ3 at A3 hn3
      have hO3 := hO.ag0 A3 no_mem (fun _ _ => no_mem)
      first | refine oP_of hO3.oth ?_ | rw [hO3.oth]
      walk_at "sw"
      refine ⟨fits_oth _ _, ?_⟩
      first | refine oP_of lk ?_ | rw [lk]
      cases sure with
      | true =>
        walk_at "sw"
        exact h1 (.inl rfl) _ _ A3
      | false =>
        walk_at "sw"
        first | refine oP_of hn3 ?_ | rw [hn3]
        walk_at "sw"
        first | refine oP_of hn3 ?_ | rw [hn3]
        walk_at "sw"
        exact h1 (.inr ⟨al, dr⟩) _ _ A3

theorem d_l_chosen : Does tab 44 fd_law_chosen.1 b_law_chosen.1 P_l_chosen := by
  rintro vs σ K ⟨w, o, rs, ws, d, rfl, hO, hw, hne, hlen, hdb, hrs, hK⟩
  refine ⟨rfl, ?_⟩
  walk_at "sw"
  first | refine oP_of hw ?_ | rw [hw]
  walk_at "sw"
  refine ⟨⟨?_, trivial⟩, ?_⟩
  · show (wv ws).length ≤ 1000
    unfold wv; rw [List.length_map]; exact hlen
  refine loop_ind (fun vs ρ σ' => ∃ (cs : List (Tu × Bool)) (d' : Tu) (pre : List (Tu × Bool)) (sp : List (Str × V)), vs = wv cs ∧ (sp = [] ∨ ∃ a b c, sp = [(("one" : Str), a), (("is_sure" : Str), b), (("known" : Str), c)]) ∧ ρ = chR w o sp ∧
    pickL (aliveR rs) ws d = pickL (aliveR rs) cs d' ∧ ws = pre ++ cs ∧ (pre = [] ∨ ∃ l, pre.getLast? = some l ∧ l.1 = d') ∧ Ag [] σ σ') ?_ ?_ _ _ _ ?_
  · rintro ρ σ' ⟨cs, d', pre, sp, e, hsp, rfl, hp, hws, hpre, A⟩
    have hw' := A.2 _ _ hw no_mem
    refine ⟨hw', ?_⟩
    obtain rfl : cs = [] := List.map_eq_nil_iff.mp e.symm
    rw [List.append_nil] at hws
    subst hws
    obtain ⟨l, hl, rfl⟩ : ∃ l, ws.getLast? = some l ∧ l.1 = d' := by
      rcases hpre with h | h
      · exact absurd h hne
      · exact h
    have hv : (wv ws).getLast? = some (.tup [tv l.1, .bool l.2]) := by
      unfold wv
      rw [List.getLast?_map, hl]; rfl
    have hK := hK σ' (by rw [hp]; exact hO.ag0 A no_mem (fun _ _ => no_mem)) (A.mono (fun _ q => nomatch q))
    rw [hp] at hK
    rcases hsp with rfl | ⟨a, b, c, rfl⟩
    all_goals
      walk_at "sw"
      first | refine oP_of hw' ?_ | rw [hw']
      walk_at "sw"
      refine seq_last hv ?_
      walk_at "sw"
      exact hK
  · rintro v rest ρ σ' G hG ⟨cs, d', pre, sp, e, hsp, rfl, hp, hws, hpre, A⟩
    have hw' := A.2 _ _ hw no_mem
    refine ⟨hw', ?_⟩
    cases cs with
    | nil => cases e
    | cons c cs =>
      obtain ⟨rfl, rfl⟩ := List.cons.inj e
      have hcm : c ∈ ws := by rw [hws]; simp
      have hO' := hO.ag0 A no_mem (fun _ _ => no_mem)
      have step : ∀ sp2, (sp2 = [] ∨ ∃ a, sp2 = [(("known" : Str), a)]) → exs (ev tab 43) b_ch.1 (chR w o ([(("one" : Str), tv c.1), (("is_sure" : Str), V.bool c.2)] ++ sp2)) σ' (loopK G (retK K)) := fun sp2 hsp2 => by
        refine ch_step hO' (hdb c hcm).1 hsp2 (fun h ρ2 σ2 A2 => ?_) (fun h ha ρ2 σ2 O2 A2 => ?_) (fun h ha a σ2 A2 => ?_)
        · show K _ σ2
          have hK := hK σ2
          rw [hp] at hK
          have hO2 := hO'.ag0 A2 no_mem (fun _ _ => no_mem)
          have A3 : Ag (rs.map (·.row)) σ σ2 := (A.trans A2).mono (fun _ q => nomatch q)
          obtain ⟨one, sure⟩ := c
          cases sure with
          | true => exact hK hO2 A3
          | false =>
            rcases h with h | ⟨h, hd⟩
            · cases h
            · have e : pickL (aliveR rs) ((one, false) :: cs) d' = (one, true) := by
                show (if false = true then (one, false) else if aliveR rs (inv one) = true then pickL (aliveR rs) cs one else (one, true)) = _
                rw [if_neg (by decide), h, if_neg (by decide)]
              rw [e] at hK
              dsimp only at hK hd
              rw [hd] at hK
              exact hK hO2 A3
        · show K _ σ2
          have hK := hK σ2
          rw [hp] at hK
          have A3 : Ag (rs.map (·.row)) σ σ2 := (A.mono (fun _ q => nomatch q)).trans A2
          obtain ⟨one, sure⟩ := c
          obtain rfl : sure = false := h
          have e : pickL (aliveR rs) ((one, false) :: cs) d' = (one, true) := by
            show (if false = true then (one, false) else if aliveR rs (inv one) = true then pickL (aliveR rs) cs one else (one, true)) = _
            rw [if_neg (by decide), ha, if_neg (by decide)]
          rw [e] at hK
          exact hK O2 A3
        · refine hG _ _ ⟨cs, c.1, pre ++ [c], _, rfl, .inr ⟨_, _, _, rfl⟩, rfl, ?_, by rw [hws, List.append_assoc]; rfl, .inr ⟨c, by simp, rfl⟩, A.trans A2⟩
          first | refine oP_of hp ?_ | rw [hp]
          obtain ⟨one, sure⟩ := c
          obtain rfl : sure = false := h
          show (if false = true then (one, false) else if aliveR rs (inv one) = true then pickL (aliveR rs) cs one else (one, true)) = _
          rw [if_neg (by decide), ha, if_pos rfl]
      rcases hsp with rfl | ⟨a, b, k, rfl⟩
      · have step := step [] (.inl rfl)
        exact step
      · have step := step [_] (.inr ⟨k, rfl⟩)
        exact step
  · exact ⟨ws, d, [], [], rfl, .inl rfl, rfl, rfl, rfl, .inl rfl, Ag.refl _ _⟩
end

section
open PySem PySem.W
open scoped Classical

theorem bor_nat {x y : Int} (hx : 0 ≤ x) (hy : 0 ≤ y) : Builtin.bitOr x y = ((x.toNat ||| y.toNat : Nat) : Int) := by
  rw [PyProof.Rows.bitOr_and, PyProof.Rows.bitAnd_pp hx hy]
  have := PyProof.Rows.nat_or_add_and x.toNat y.toNat
  omega
theorem bor_swap {x y z : Int} (hx : 0 ≤ x) (hy : 0 ≤ y) (hz : 0 ≤ z) : Builtin.bitOr (Builtin.bitOr x y) z = Builtin.bitOr (Builtin.bitOr x z) y := by
  rw [bor_nat hx hy, bor_nat hx hz, bor_nat (by omega) hz, bor_nat (by omega) hy, Int.toNat_natCast, Int.toNat_natCast, Nat.or_assoc, Nat.or_assoc, Nat.or_comm y.toNat]
theorem bor_pos {x y : Int} (hx : 0 ≤ x) (hy : 0 ≤ y) : 0 ≤ Builtin.bitOr x y := by rw [bor_nat hx hy]; omega
theorem and_pow (n k : Nat) : n &&& 2 ^ k = 2 ^ k * (n / 2 ^ k % 2) := by
  have h1 : (n &&& 2 ^ k) / 2 ^ k = (n / 2 ^ k &&& 2 ^ k / 2 ^ k) := Nat.and_div_two_pow ..
  have h2 : (n &&& 2 ^ k) % 2 ^ k = (n % 2 ^ k &&& 2 ^ k % 2 ^ k) := Nat.and_mod_two_pow ..
  rw [Nat.div_self (Nat.two_pow_pos k), Nat.and_one_is_mod] at h1
  rw [Nat.mod_self, Nat.and_zero] at h2
  have := Nat.div_add_mod (n &&& 2 ^ k) (2 ^ k)
  rw [h1, h2, Nat.add_zero] at this
  exact this.symm
theorem bor_bit {x : Int} (hx : 0 ≤ x) (k : Nat) : (if decide ((x.fdiv (2 ^ k)).fmod 2 = 0) = true then x + 2 ^ k else x) = Builtin.bitOr x (2 ^ k) := by
  obtain ⟨n, rfl⟩ := Int.eq_ofNat_of_zero_le hx
  have hp : (0 : Int) ≤ 2 ^ k := Int.le_of_lt (Int.pow_pos (by decide))
  rw [PyProof.Rows.bitOr_and, PyProof.Rows.bitAnd_pp hx hp]
  have e1 : ((2 : Int) ^ k).toNat = 2 ^ k := by
    have : ((2 : Int) ^ k) = ((2 ^ k : Nat) : Int) := by simp
    rw [this, Int.toNat_natCast]
  rw [e1, Int.toNat_natCast, and_pow, Int.fdiv_eq_ediv_of_nonneg _ hp, Int.fmod_eq_emod_of_nonneg _ (by decide)]
  have e2 : ((n : Int) / 2 ^ k) % 2 = ((n / 2 ^ k % 2 : Nat) : Int) := by simp
  have e4 : ((2 : Int) ^ k) = ((2 ^ k : Nat) : Int) := by simp
  first | refine oP_of e2 ?_ | rw [e2]
  rcases Nat.mod_two_eq_zero_or_one (n / 2 ^ k) with h | h
  · rw [h]
    simp
  · rw [h, if_neg (by decide), e4]
    omega

theorem own_mono {m n : Int} {t : Tu} (h : Own n t) (hm : m ≤ n) : Own m t := ⟨h.1, ⟨by have := h.2.1.1; omega, by have := h.2.1.2; omega⟩, h.2.2⟩
theorem own_dom {n : Int} {t : Tu} (h : Own n t) : Dom t := fun hp => by
  rcases h.1 hp with ⟨h1, h2⟩ | ⟨h1, h2⟩
  · exact .inl ⟨h1, .inl h2⟩
  · exact .inr ⟨h1, .inl h2⟩
theorem own_big {n : Int} {t : Tu} (h : Own n t) (hn : 0 ≤ n) : Big t := ⟨by have := h.2.1.1; omega, by have := h.2.1.2; omega⟩
theorem own_setA {n : Int} {t : Tu} {src : Bool} {a : Int} (h : Own n t) (ha : 1000 + 8 * n ≤ a) : Own n (setA' t src a) := by
  obtain ⟨h1, ⟨h2, h3⟩, h4⟩ := h
  unfold setA'
  cases src
  · exact ⟨h1, ⟨h2, ha⟩, h4⟩
  · exact ⟨h1, ⟨ha, h3⟩, h4⟩
theorem own_setP {n : Int} {t : Tu} {src : Bool} {p : Int} (h : Own n t) (h0 : 0 ≤ p) (h1 : p ≤ 65535) : Own n (setP t src p) := by
  obtain ⟨a1, a2, a3, a4, a5, a6⟩ := h
  unfold setP
  cases hp : (src || ping t) with
  | true => exact ⟨a1, a2, h0, h1, a5, a6⟩
  | false =>
    refine ⟨fun q => ?_, a2, a3, a4, h0, h1⟩
    have q : ping t = true := q
    rw [q, Bool.or_true] at hp
    cases hp
theorem span_in {t : Tu} {src : Bool} {q : Rq} {p : Int × Int} (hq : RqOk q) (h : spanP t src q = some p) : 0 ≤ p.1 ∧ p.2 ≤ 65535 := by
  obtain ⟨lohi, ports, net⟩ := q
  unfold spanP at h
  split at h
  · cases ports with
    | some pp =>
      have := hq.2 pp.1 pp.2 rfl
      dsimp only at h
      split at h
      · cases h; exact ⟨this.1, this.2.2.2⟩
      · cases h; exact ⟨this.2.2.1, this.2.1⟩
    | none =>
      dsimp only at h
      split at h
      · cases h; decide
      · split at h
        · split at h
          · cases h; decide
          · split at h
            · cases h; decide
            · cases h; decide
        · cases h
  · cases h
theorem own_new {n : Int} {t : Tu} {src : Bool} {q : Rq} (h : Own (n + 1) t) (hn : 0 ≤ n) (hq : RqIn n q) : Own n (setA' t src (newA t src q)) := by
  refine own_setA (own_mono h (by omega)) ?_
  have := own_adr (src := src) h
  obtain ⟨lohi, ports, net⟩ := q
  unfold newA
  cases lohi with
  | none => dsimp only; omega
  | some l =>
    have := hq.2 l.1 l.2 rfl
    dsimp only
    split
    · have := Int.emod_nonneg (adr t src) (show (8 : Int) ≠ 0 by decide)
      omega
    · exact this
theorem own_wait {n : Int} {t : Tu} {src : Bool} {q : Rq} {tr : Int} (h : Own (n + 1) t) (hn : 0 ≤ n) (hq : RqIn n q) : ∀ c ∈ waitL t src q tr, Own n c.1 := by
  have h1 := own_mono h (show n ≤ n + 1 by omega)
  have h2 := own_new (src := src) h hn hq
  intro c hc
  rw [wait_split] at hc
  rcases List.mem_append.mp hc with hc | hc
  · split at hc
    · obtain rfl := List.mem_singleton.mp hc; exact h1
    · cases hc
  rcases List.mem_append.mp hc with hc | hc
  · split at hc
    · obtain rfl := List.mem_singleton.mp hc; exact h2
    · cases hc
  cases hs : spanP (setA' t src (newA t src q)) src q with
  | none =>
    rw [hs] at hc
    obtain rfl := List.mem_singleton.mp hc; exact h2
  | some p =>
    rw [hs] at hc
    obtain ⟨k, _, rfl⟩ := List.mem_map.mp hc
    have hle := span_le hs
    have hin := span_in hq.1 hs
    have a1 := Int.emod_nonneg ((prt (setA' t src (newA t src q)) src - p.1) % (p.2 - p.1 + 1) + (k : Int)) (show p.2 - p.1 + 1 ≠ 0 by omega)
    have a2 := Int.emod_lt_of_pos ((prt (setA' t src (newA t src q)) src - p.1) % (p.2 - p.1 + 1) + (k : Int)) (show 0 < p.2 - p.1 + 1 by omega)
    exact own_setP h2 (by omega) (by omega)
theorem wait_nil {t : Tu} {src : Bool} {q : Rq} {tr : Int} (h : 1 ≤ tr) : waitL t src q tr ≠ [] := by
  first | refine oP_of wait_split ?_ | rw [wait_split]
  exact fun e => wait_ne h (List.append_eq_nil_iff.mp e).2
theorem wait_len {t : Tu} {src : Bool} {q : Rq} {tr : Int} (h : 1 ≤ tr ∧ tr ≤ 100) : (waitL t src q tr).length ≤ 1000 := by
  have h1 : (if (src && inA t src q) = true then [(t, false)] else []).length ≤ 1 := by split <;> simp
  have h2 : (if fits t src q.ports = true then [(setA' t src (newA t src q), sure q)] else []).length ≤ 1 := by split <;> simp
  rw [wait_split, List.length_append, List.length_append]
  cases spanP (setA' t src (newA t src q)) src q with
  | none => simp only [List.length_singleton]; omega
  | some p =>
    have h3 : (roundL (setA' t src (newA t src q)) src p.1 p.2 tr).length ≤ 100 := by
      unfold roundL
      rw [List.length_map, List.length_range]; omega
    dsimp only
    omega
theorem alive_eq {σ : SH} {o : Nat} {rs : List Rc} (O : OthW σ o rs) : aliveL (live rs) = aliveR rs := by
  funext k
  rw [Bool.eq_iff_iff]
  unfold aliveL aliveR live
  simp only [List.any_eq_true, List.mem_filter, Bool.and_eq_true, decide_eq_true_eq]
  constructor
  · rintro ⟨x, ⟨h1, _⟩, h2⟩
    exact ⟨x, h1, h2⟩
  · rintro ⟨x, h1, h2⟩
    refine ⟨x, ⟨h1, ?_⟩, h2⟩
    cases hg : x.gone with
    | false => rfl
    | true =>
      have := (O.ok x h1).2 hg
      rw [h2.2] at this; cases this
theorem not_drop {r : Rc} {k : Tu} (h : ¬ (r.key = k ∧ r.alive = false)) : (!(decide (r.key = k) && !r.alive)) = true := by
  cases e : (decide (r.key = k) && !r.alive) with
  | false => rfl
  | true =>
    have e := Bool.and_eq_true_iff.mp e
    exact (h ⟨of_decide_eq_true e.1, Bool.not_eq_true' _ ▸ e.2⟩).elim
theorem live_drop (k : Tu) : ∀ rs : List Rc, live (dropR k rs) = dropL k (live rs)
  | [] => rfl
  | r :: rs => by
    have ih := live_drop k rs
    show List.filter _ ((if r.key = k ∧ r.alive = false then { r with gone := true } else r) :: dropR k rs) = List.filter _ (List.filter _ (r :: rs))
    by_cases hd : r.key = k ∧ r.alive = false
    · rw [if_pos hd, List.filter_cons_of_neg (p := fun r : Rc => !r.gone) (a := { r with gone := true }) Bool.false_ne_true]
      by_cases hg : (!r.gone) = true
      · rw [List.filter_cons_of_pos (p := fun r : Rc => !r.gone) (a := r) hg, List.filter_cons_of_neg (p := fun r : Rc => !(decide (r.key = k) && !r.alive)) (a := r) (by rw [decide_eq_true hd.1, hd.2]; exact Bool.false_ne_true)]; exact ih
      · rw [List.filter_cons_of_neg (p := fun r : Rc => !r.gone) (a := r) hg]; exact ih
    · rw [if_neg hd]
      by_cases hg : (!r.gone) = true
      · rw [List.filter_cons_of_pos (p := fun r : Rc => !r.gone) (a := r) hg, List.filter_cons_of_pos (p := fun r : Rc => !r.gone) (a := r) hg, List.filter_cons_of_pos (p := fun r : Rc => !(decide (r.key = k) && !r.alive)) (a := r) (not_drop hd)]; exact congrArg _ ih
      · rw [List.filter_cons_of_neg (p := fun r : Rc => !r.gone) (a := r) hg, List.filter_cons_of_neg (p := fun r : Rc => !r.gone) (a := r) hg]; exact ih
theorem dropR_len (k : Tu) (rs : List Rc) : (dropR k rs).length = rs.length := List.length_map _
theorem dropR_mem {k : Tu} {rs : List Rc} {q : Rc} (h : q ∈ dropR k rs) : ∃ x ∈ rs, q.row = x.row ∧ q.ref = x.ref := by
  obtain ⟨x, hx, rfl⟩ := List.mem_map.mp h
  refine ⟨x, hx, ?_⟩
  split <;> exact ⟨rfl, rfl⟩
theorem ints_talks : ∀ L : List Rc, intsOf ((talksOf L).map (·.1)) = some (L.map (·.num))
  | [] => rfl
  | r :: L => by
    show (intsOf ((talksOf L).map (·.1))).map (r.num :: ·) = _
    rw [ints_talks L]; rfl
theorem ints_map : ∀ ns : List Int, intsOf (ns.map V.int) = some ns
  | [] => rfl
  | n :: ns => by
    show (intsOf (ns.map V.int)).map (n :: ·) = _
    rw [ints_map ns]; rfl
theorem heads_sub {σ : SH} : ∀ {rs : List Rc}, (∀ r ∈ rs, σ[r.row]? = some (.list [.int (if r.gone then -r.num else r.num), .bool r.alive])) → headsOf σ (rs.map fun r => (tv r.key, V.ref r.row)) = some (rs.map fun r => if r.gone then -r.num else r.num)
  | [], _ => rfl
  | r :: rs, h => by
    have h1 : headOf σ (.ref r.row) = some (if r.gone then -r.num else r.num) := by
      show (σ[r.row]?).bind headO = _
      rw [h r List.mem_cons_self]; rfl
    show ((headOf σ (.ref r.row)).bind fun i => (headsOf σ (rs.map fun r => (tv r.key, V.ref r.row))).map fun is => i :: is) = _
    rw [h1, heads_sub fun q hq => h q (List.mem_cons_of_mem _ hq)]; rfl
theorem heads_live : ∀ {rs : List Rc}, (∀ r ∈ rs, 0 < r.num) → (rs.map fun r => if r.gone then -r.num else r.num).filter (fun i => decide (i > 0)) = (live rs).map (·.num)
  | [], _ => rfl
  | r :: rs, h => by
    have ih := heads_live fun q hq => h q (List.mem_cons_of_mem _ hq)
    have hr := h r List.mem_cons_self
    unfold live at ih ⊢
    rw [List.map_cons]
    cases hg : r.gone with
    | true =>
      rw [if_pos rfl, List.filter_cons_of_neg (by simp; omega), ih, List.filter_cons_of_neg (by simp [hg])]
    | false =>
      rw [if_neg (by decide), List.filter_cons_of_pos (by simp; omega), ih, List.filter_cons_of_pos (by simp [hg]), List.map_cons]
theorem sorted_one {xs as bs : List Int} (h1 : sorted2 xs as) (h2 : sorted2 xs bs) : as = bs := by
  have p : as.Perm bs := h1.1.trans h2.1.symm
  exact p.eq_of_pairwise (fun a b _ _ h1 h2 => Int.le_antisymm h1 h2) h1.2 h2.2
theorem eqv_ints : ∀ ns : List Int, PyData.eqv (.list (ns.map .int)) (.list (ns.map .int)) = true := by
  have : ∀ ns : List Int, PyData.eqvAll (ns.map .int) (ns.map .int) = true := by
    intro ns
    induction ns with
    | nil => rfl
    | cons n ns ih => simp only [List.map_cons, PyData.eqvAll, ih, eqv_int, decide_true, Bool.and_self]
  intro ns
  simp only [PyData.eqv, this]
end

section
open PySem PySem.W
open scoped Classical

noncomputable def b_ho : { b : List Stmt // forAt b_law_holds.1 5 = b } := by
  refine ⟨?b, ?h⟩
  rotate_left
  conv => lhs; whnf
noncomputable def hoR (p : Nat) (t : Tu) (tr st : Int) (o me b : Nat) (now : Tu) (sp : List (Str × V)) : Loc := ⟨fd_law_holds.1.scope, (nsOf fd_law_holds.1).zip [.ref p] ++ [(("t" : Str), tv t), (("tries" : Str), V.int tr), (("status" : Str), V.int st), (("others" : Str), V.ref o), (("talk" : Str), V.ref me), (("book" : Str), V.ref b), (("now_tuple" : Str), tv now)] ++ sp⟩

theorem ho_1 {σ : SH} {p r o me b : Nat} {t now : Tu} {tr st k n : Int} {sp : List (Str × V)} {G : KS} (hW : PenW σ p r) (hO : Own (n + 1) now) (hn : 0 ≤ n)
    (hsp : sp = [] ∨ ∃ a b c d e f g h, sp = [(("manip" : Str), a), (("asked" : Str), b), (("waiting" : Str), c), (("due" : Str), d), (("request" : Str), e), (("bits" : Str), f), (("bit" : Str), g), (("living" : Str), h)])
    (hG : ∀ src q σ' sp', RqIn n q → (decide (k < 2) = false → q = ⟨none, none, false⟩) → PenW σ' p r → Ag [p, r] σ σ' → ((sp = [] ∧ sp' = []) ∨ ∃ c d e f g h, sp' = [(("waiting" : Str), c), (("due" : Str), d), (("request" : Str), e), (("bits" : Str), f), (("bit" : Str), g), (("living" : Str), h)]) →
      G .next (hoR p t tr st o me b now ([(("turn" : Str), V.int k), (("manip" : Str), mv src), (("asked" : Str), askv q)] ++ sp')) σ') :
    exs (ev tab 159) (b_ho.1.take 2) (hoR p t tr st o me b now ((("turn" : Str), V.int k) :: sp)) σ G := by
  have rn : RqIn n ⟨none, none, false⟩ := ⟨rq_none, fun _ _ e => nomatch e⟩
  rcases hsp with rfl | ⟨a1, a2, a3, a4, a5, a6, a7, a8, rfl⟩
  all_goals
    walk_at "sw"
    refine ⟨p, r, _, rfl, hW, by decide, by decide, fun d σ1 h0 h1 W1 A1 => ?_⟩
    walk_at "sw"
    have hd : d = 0 ∨ d = 1 := by omega
    rcases hd with rfl | rfl
    · walk_at "sw"
      refine ifB_of (fun h => ?_) (fun h => ?_)
      · walk_at "sw"
        refine ⟨p, r, now, true, n, rfl, W1, hO, hn, fun q σ2 hq W2 A2 => ?_⟩
        walk_at "sw"
        refine hG true q σ2 _ hq (fun h' => absurd (h.symm.trans h') (fun e => nomatch e)) W2 (A1.trans A2) (by first | exact .inl ⟨rfl, rfl⟩ | exact .inr ⟨_, _, _, _, _, _, rfl⟩)
      · walk_at "sw"
        refine hG true ⟨none, none, false⟩ σ1 _ rn (fun _ => rfl) W1 A1 (by first | exact .inl ⟨rfl, rfl⟩ | exact .inr ⟨_, _, _, _, _, _, rfl⟩)
    · walk_at "sw"
      refine ifB_of (fun h => ?_) (fun h => ?_)
      · walk_at "sw"
        refine ⟨p, r, now, false, n, rfl, W1, hO, hn, fun q σ2 hq W2 A2 => ?_⟩
        walk_at "sw"
        refine hG false q σ2 _ hq (fun h' => absurd (h.symm.trans h') (fun e => nomatch e)) W2 (A1.trans A2) (by first | exact .inl ⟨rfl, rfl⟩ | exact .inr ⟨_, _, _, _, _, _, rfl⟩)
      · walk_at "sw"
        refine hG false ⟨none, none, false⟩ σ1 _ rn (fun _ => rfl) W1 A1 (by first | exact .inl ⟨rfl, rfl⟩ | exact .inr ⟨_, _, _, _, _, _, rfl⟩)

theorem row_pen {σ : SH} {p r o : Nat} {rs : List Rc} {q : Rc} (hP : PenW σ p r) (hO : OthW σ o rs) (hq : q ∈ rs) : q.row ≠ p ∧ q.row ≠ r := by
  obtain ⟨hpr, rest, row, hp, hr, hrow⟩ := hP
  refine ⟨ne_of (hO.each q hq) hp (fun e => nomatch e), ne_of (hO.each q hq) hr (fun e => ?_)⟩
  have e := SO.list.inj e
  match row, e with
  | [], e => cases e
  | [x], e => cases e
  | x :: y :: row, e => exact nomatch (List.cons.inj (List.cons.inj e).2).1
theorem book_rows {σ σ' : SH} {o : Nat} {B : Bk} {L rs : List Rc} (W : BookW σ B L) (hO : OthW σ o rs) (A : Ag (rs.map (·.row)) σ σ') : BookW σ' B L := by
  obtain ⟨trk, ex, hbk, hex, hpn⟩ := W.book
  refine W.ag2 A fun i hi => ?_
  obtain ⟨q, hq, rfl⟩ := List.mem_map.mp hi
  have h := hO.each q hq
  simp only [foot, List.mem_cons, List.mem_map, not_or]
  refine ⟨⟨ne_of h hbk (fun e => nomatch e), ne_of h W.table (fun e => nomatch e), ne_of h W.talks (fun e => nomatch e), ?_⟩, ne_of h W.flows (fun e => nomatch e), .inr fun x hx e => ?_⟩
  · rintro ⟨x, hx, e⟩
    exact ne_of (W.each x hx) h (fun e => nomatch e) e
  · rw [h] at hx; cases hx; cases e

/-- what the law keeps from turn to turn, but for the tuple and the status -/
structure HoN (B : Bk) (p r o : Nat) : Prop where
  ne : o ≠ B.tb ∧ o ≠ B.tk ∧ o ≠ B.fl ∧ o ≠ p ∧ B.tb ≠ p ∧ B.tk ≠ p
  pn : B.pn = r ∧ B.fl ≠ p
theorem ho_2 {σ : SH} {p r o me : Nat} {B : Bk} {t now : Tu} {tr st k n : Int} {src : Bool} {q : Rq} {rs : List Rc} {r1 : Tu} {st1 : Int} {sp : List (Str × V)} {G : KS} (hW : PenW σ p r) (hB : BookW σ B (live rs)) (hOt : OthW σ o rs) (hM : MeW σ me t r1 st1)
    (hO : Own (n + 1) now) (hn : 0 ≤ n) (hq : RqIn n q) (htr : 1 ≤ tr ∧ tr ≤ 100) (hlen : rs.length ≤ 16) (hN : HoN B p r o)
    (hsp : sp = [] ∨ ∃ c d e f g h, sp = [(("waiting" : Str), c), (("due" : Str), d), (("request" : Str), e), (("bits" : Str), f), (("bit" : Str), g), (("living" : Str), h)])
    (hG : ∀ rs1 (pk : Tu × Bool) σ' w sp', pk = pickL (aliveR rs1) (waitL now src q tr) now → PenW σ' p r → BookW σ' B (live rs1) → OthW σ' o (if pk.2 then dropR (inv pk.1) rs1 else rs1) → aliveL (live rs1) = aliveR rs1 → MeW σ' me t r1 st1 → rs1.length ≤ rs.length + 8 → (∀ q ∈ rs1, q ∈ rs ∨ (σ.length ≤ q.row ∧ σ.length ≤ q.ref)) →
      Ag ([p, r, B.tb, B.tk, o] ++ rs1.map (·.row)) σ σ' → ((sp = [] ∧ sp' = []) ∨ ∃ e f g h, sp' = [(("request" : Str), e), (("bits" : Str), f), (("bit" : Str), g), (("living" : Str), h)]) →
      G .next (hoR p t tr st o me B.b now ([(("turn" : Str), V.int k), (("manip" : Str), mv src), (("asked" : Str), askv q), (("waiting" : Str), w), (("due" : Str), tv pk.1)] ++ sp')) σ') :
    exs (ev tab 159) ((b_ho.1.drop 2).take 3) (hoR p t tr st o me B.b now ([(("turn" : Str), V.int k), (("manip" : Str), mv src), (("asked" : Str), askv q)] ++ sp)) σ G := by
  have own := own_wait (src := src) (tr := tr) hO hn hq
  have dom : ∀ c ∈ waitL now src q tr, Dom c.1 ∧ Big c.1 := fun c hc => ⟨own_dom (own c hc), own_big (own c hc) hn⟩
  have wn : waitL now src q tr ≠ [] := wait_nil htr.1
  have wl : (waitL now src q tr).length ≤ 1000 := wait_len htr
  have fin : ∀ k1 σ1 rs1 σ2 σ3 (pk : Tu × Bool) sp', pk = pickL (aliveR rs1) (waitL now src q tr) now → Ag [] σ σ1 → PenW σ2 p r → BookW σ2 B (live rs1) → OthW σ2 o rs1 → (rs1.length ≤ rs.length + 8 ∧ ∀ q ∈ rs1, q ∈ rs ∨ (σ1.length ≤ q.row ∧ σ1.length ≤ q.ref)) → Ag [p, r, B.tb, B.tk, o] σ1 σ2 →
      OthW σ3 o (if pk.2 then dropR (inv pk.1) rs1 else rs1) → Ag (rs1.map (·.row)) σ2 σ3 → ((sp = [] ∧ sp' = []) ∨ ∃ e f g h, sp' = [(("request" : Str), e), (("bits" : Str), f), (("bit" : Str), g), (("living" : Str), h)]) →
      G .next (hoR p t tr st o me B.b now ([(("turn" : Str), V.int k), (("manip" : Str), mv src), (("asked" : Str), askv q), (("waiting" : Str), V.ref k1), (("due" : Str), tv pk.1)] ++ sp')) σ3 := by
    intro k1 σ1 rs1 σ2 σ3 pk sp' epk A1 P2 B2 O2 hl A2 O3 A3 hs
    have P2' := P2
    obtain ⟨hpr, rest, row, hp, hr, hrow⟩ := hW
    have M1 : MeW σ1 me t r1 st1 := A1.2 _ _ hM no_mem
    have hp1 := A1.2 _ _ hp no_mem
    have hr1 := A1.2 _ _ hr no_mem
    have hB1 := hB.ag1 A1
    have hO1 := hOt.ag0 A1 no_mem (fun _ _ => no_mem)
    have M2 : MeW σ2 me t r1 st1 := A2.2 _ _ M1 (by
      simp only [List.mem_cons, List.not_mem_nil, or_false, not_or]
      exact ⟨ne_of M1 hp1 (fun e => nomatch e), ne_of M1 hr1 (fun e => nomatch e), ne_of M1 hB1.table (fun e => nomatch e), ne_of M1 hB1.talks (fun e => nomatch e), ne_of M1 hO1.oth (fun e => nomatch e)⟩)
    have M3 : MeW σ3 me t r1 st1 := A3.2 _ _ M2 (fun hm => by
      obtain ⟨x, hx, e⟩ := List.mem_map.mp hm
      exact ne_of (O2.each x hx) M2 (fun e => nomatch e) e)
    have P3 : PenW σ3 p r := P2.ag0 A3 (fun hm => by
      obtain ⟨x, hx, e⟩ := List.mem_map.mp hm
      exact (row_pen P2' O2 hx).1 e) (fun hm => by
      obtain ⟨x, hx, e⟩ := List.mem_map.mp hm
      exact (row_pen P2' O2 hx).2 e)
    have hA : Ag ([p, r, B.tb, B.tk, o] ++ rs1.map (·.row)) σ σ3 := ((A1.mono (fun _ q => nomatch q)).trans (A2.mono fun i hi => List.mem_append_left _ hi)).trans (A3.mono fun i hi => List.mem_append_right _ hi)
    refine hG rs1 pk σ3 _ sp' epk P3 (book_rows B2 O2 A3) O3 (alive_eq O2) M3 hl.1 (fun q hq => ?_) hA hs
    rcases hl.2 q hq with h | h
    · exact .inl h
    · have := A1.1
      exact .inr ⟨by omega, by omega⟩
  clear hG
  rcases hsp with rfl | ⟨a1, a2, a3, a4, a5, a6, rfl⟩
  all_goals
    walk_at "sw"
    refine ⟨now, src, q, tr, rfl, htr, hq.1, fun k1 σ1 A1 hk1 hkl => ?_⟩
    walk_at "sw"
    refine ⟨p, r, B, k1, o, rs, waitL now src q tr, rfl, hW.ag0 A1 no_mem no_mem, hB.ag1 A1, hOt.ag0 A1 no_mem (fun _ _ => no_mem), hk1, ⟨wn, wl, dom⟩, hlen, hN.ne, hN.pn, fun rs1 σ2 P2 B2 O2 hl A2 => ?_⟩
    have hk2 : σ2[k1]? = some (.list (wv (waitL now src q tr))) := by
      have P1 := hW.ag0 A1 no_mem no_mem
      obtain ⟨hpr, rest, row, hp, hr, hrow⟩ := P1
      have hB1 := hB.ag1 A1
      have hO1 := hOt.ag0 A1 no_mem (fun _ _ => no_mem)
      refine A2.2 _ _ hk1 ?_
      simp only [List.mem_cons, List.not_mem_nil, or_false, not_or]
      exact ⟨ne_of hk1 hp (fun e => nomatch e), wv_not wn hk1 hr, ne_of hk1 hB1.table (fun e => nomatch e), ne_of hk1 hB1.talks (fun e => nomatch e), ne_of hk1 hO1.oth (fun e => nomatch e)⟩
    walk_at "sw"
    refine ⟨k1, o, rs1, waitL now src q tr, now, rfl, O2, hk2, wn, wl, dom, by omega, fun σ3 O3 A3 => ?_⟩
    walk_at "sw"
    exact fin k1 σ1 rs1 σ2 σ3 _ _ rfl A1 P2 B2 O2 hl A2 O3 A3 (by first | exact .inl ⟨rfl, rfl⟩ | exact .inr ⟨_, _, _, _, rfl⟩)
end

section
open PySem PySem.W
open scoped Classical

theorem ho_3 {σ : SH} {p o me : Nat} {B : Bk} {L : List Rc} {t now : Tu} {tr st k : Int} {src : Bool} {q : Rq} {w : V} {d : V} {sp : List (Str × V)} {G : KS} (hB : BookW σ B L) (hM : MeW σ me t (inv now) st)
    (hd : Dom now) (hb : Big now) (hq : RqOk q) (htr : 1 ≤ B.tr ∧ B.tr ≤ 100) (hk : decide (k < 2) = false → q = ⟨none, none, false⟩)
    (hsp : (sp = [] ∧ decide (k < 2) = true) ∨ ∃ e f g h, sp = [(("request" : Str), e), (("bits" : Str), f), (("bit" : Str), g), (("living" : Str), h)])
    (hG : ∀ σ' e sp', BookW σ' B (after L (pickL (aliveL L) (waitL now src q B.tr) now)) → MeW σ' me t (inv (pickL (aliveL L) (waitL now src q B.tr) now).1) (stNew src st (decide ((pickL (aliveL L) (waitL now src q B.tr) now).1 ≠ now))) →
      Ag (me :: foot B L) σ σ' → (sp' = [] ∨ ∃ f g h, sp' = [(("bits" : Str), f), (("bit" : Str), g), (("living" : Str), h)]) →
      G .next (hoR p t tr st o me B.b now ([(("turn" : Str), V.int k), (("manip" : Str), mv src), (("asked" : Str), askv q), (("waiting" : Str), w), (("due" : Str), d), (("request" : Str), e)] ++ sp')) σ') :
    exs (ev tab 159) ((b_ho.1.drop 5).take 1) (hoR p t tr st o me B.b now ([(("turn" : Str), V.int k), (("manip" : Str), mv src), (("asked" : Str), askv q), (("waiting" : Str), w), (("due" : Str), d)] ++ sp)) σ G := by
  rcases hsp with ⟨rfl, h2⟩ | ⟨a1, a2, a3, a4, rfl⟩
  · walk_at "sw"
    refine ifB_of (fun h => ?_) (fun h => absurd (h2.symm.trans h) (fun e => nomatch e))
    cases src
    all_goals
      walk_at "sw"
      refine ⟨B, L, me, t, now, st, _, t.nf, q, rfl, hd, hb, hq, htr, hB, hM, fun σ' B' M' A' => ?_⟩
      walk_at "sw"
      exact hG σ' _ [] B' M' A' (.inl rfl)
  · walk_at "sw"
    refine ifB_of (fun h => ?_) (fun h => ?_)
    · cases src
      all_goals
        walk_at "sw"
        refine ⟨B, L, me, t, now, st, _, t.nf, q, rfl, hd, hb, hq, htr, hB, hM, fun σ' B' M' A' => ?_⟩
        walk_at "sw"
        exact hG σ' _ [_, _, _] B' M' A' (.inr ⟨_, _, _, rfl⟩)
    · obtain rfl := hk h
      cases src
      all_goals
        walk_at "sw"
        refine ⟨B, L, me, t, now, st, _, rfl, hd, hb, htr, hB, hM, fun σ' B' M' A' => ?_⟩
        walk_at "sw"
        exact hG σ' _ [_, _, _] B' M' A' (.inr ⟨_, _, _, rfl⟩)

theorem st_one {st : Int} (h : 0 ≤ st) (src : Bool) : (if decide ((st.fdiv (if src then 128 else 256)).fmod 2 = 0) = true then st + (if src then 128 else 256) else st) = stNew src st false := by
  cases src
  · exact bor_bit h 8
  · exact bor_bit h 7
theorem st_two {st x : Int} (h : 0 ≤ st) (src : Bool) (hx : x = stNew src st false) : (if decide ((x.fdiv (if src then 16 else 32)).fmod 2 = 0) = true then x + (if src then 16 else 32) else x) = stNew src st true := by
  subst hx
  cases src
  · show (if decide (((Builtin.bitOr st 256).fdiv 32).fmod 2 = 0) = true then Builtin.bitOr st 256 + 32 else Builtin.bitOr st 256) = Builtin.bitOr (Builtin.bitOr st 32) 256
    first | refine oP_of (bor_swap h (by decide) (by decide)) ?_ | rw [bor_swap h (by decide) (by decide)]
    exact bor_bit (bor_pos h (by decide)) 5
  · show (if decide (((Builtin.bitOr st 128).fdiv 16).fmod 2 = 0) = true then Builtin.bitOr st 128 + 16 else Builtin.bitOr st 128) = Builtin.bitOr (Builtin.bitOr st 16) 128
    first | refine oP_of (bor_swap h (by decide) (by decide)) ?_ | rw [bor_swap h (by decide) (by decide)]
    exact bor_bit (bor_pos h (by decide)) 4
theorem st_pos {st : Int} (h : 0 ≤ st) (src m : Bool) : 0 ≤ stNew src st m := by
  unfold stNew
  cases src <;> cases m <;> (first | exact bor_pos h (by decide) | exact bor_pos (bor_pos h (by decide)) (by decide))

noncomputable def b_bit : { b : List Stmt // forAt b_ho.1 7 = b } := by
  refine ⟨?b, ?h⟩
  rotate_left
  conv => lhs; whnf
noncomputable def bump (st bv : Int) : Int := if decide ((st.fdiv bv).fmod 2 = 0) = true then st + bv else st
/-- a bit is put to the status, if it is not there -/
theorem bit_turn {vs : List (Str × V)} {σ : SH} {st bv : Int} {K : KS} (h1 : Loc.get ⟨fd_law_holds.1.scope, vs⟩ ("status" : Str) = some (.int st)) (h2 : Loc.get ⟨fd_law_holds.1.scope, vs⟩ ("bit" : Str) = some (.int bv)) (hb : bv ≠ 0 ∧ bv.natAbs < 2 ^ 60)
    (hK : K .next (Loc.set ⟨fd_law_holds.1.scope, vs⟩ ("status" : Str) (.int (bump st bv))) σ) : exs (ev tab 158) b_bit.1 ⟨fd_law_holds.1.scope, vs⟩ σ K := by
  walk_at "sw"
  refine oP_of h1 ?_
  walk_at "sw"
  rw [h1]
  walk_at "sw"
  rw [h2]
  walk_at "sw"
  refine ifB_of (fun h => ?_) (fun h => ?_)
  · rw [eqv_int] at h
    walk_at "sw"
    rw [h2]
    walk_at "sw"
    rw [show bump st bv = st + bv from if_pos h] at hK
    exact hK
  · rw [eqv_int] at h
    walk_at "sw"
    rw [show bump st bv = st + 0 from (if_neg (by rw [h]; decide)).trans (Int.add_zero st).symm] at hK
    exact hK
theorem bump_one {st : Int} (h : 0 ≤ st) (src : Bool) : bump st (if src then 128 else 256) = stNew src st false := st_one h src
theorem bump_two {st : Int} (h : 0 ≤ st) (src : Bool) : bump (bump st (if src then 128 else 256)) (if src then 16 else 32) = stNew src st true := by
  rw [bump_one h]
  exact st_two h src rfl
/-- a loop over told values -/
theorem for_step {T : Tab} {n : Nat} {t iter : Expr} {body : List Stmt} {p : Pos} {ρ : Loc} {σ : SH} {K : KS} {vs : List V} (h4 : ∀ K' : Src → SH → Prop, K' (.fixed vs) σ → srcW (ev T n) iter ρ σ K') (hl : vs.length ≤ 1000)
    (h : loopW (ev T n) t body (Src.fixed vs).still vs ρ σ (seqK exsN K)) : exs (ev T (n + 1)) [.For t iter body [] p] ρ σ K := h4 _ ⟨⟨hl, trivial⟩, h⟩
theorem bit_ok1 (src : Bool) : (if src then 128 else 256 : Int) ≠ 0 ∧ (if src then 128 else 256 : Int).natAbs < 2 ^ 60 := by cases src <;> decide
theorem bit_ok2 (src : Bool) : (if src then 16 else 32 : Int) ≠ 0 ∧ (if src then 16 else 32 : Int).natAbs < 2 ^ 60 := by cases src <;> decide
noncomputable def bitsL (eq src : Bool) : List V := if eq then [.int (if src then 128 else 256)] else [.int (if src then 128 else 256), .int (if src then 16 else 32)]
set_option maxHeartbeats 1000000 in
theorem ho_4 {σ : SH} {p o me b : Nat} {t now due : Tu} {tr st k : Int} {src : Bool} {ask e : V} {w : V} {sp : List (Str × V)} {G : KS} (hst : 0 ≤ st)
    (hsp : sp = [] ∨ ∃ f g h, sp = [(("bits" : Str), f), (("bit" : Str), g), (("living" : Str), h)])
    (hG : ∀ f g sp', (sp' = [] ∨ ∃ h, sp' = [(("living" : Str), h)]) →
      G .next (hoR p t tr (stNew src st (decide (due ≠ now))) o me b now ([(("turn" : Str), V.int k), (("manip" : Str), mv src), (("asked" : Str), ask), (("waiting" : Str), w), (("due" : Str), tv due), (("request" : Str), e), (("bits" : Str), f), (("bit" : Str), g)] ++ sp')) σ) :
    exs (ev tab 159) ((b_ho.1.drop 6).take 2) (hoR p t tr st o me b now ([(("turn" : Str), V.int k), (("manip" : Str), mv src), (("asked" : Str), ask), (("waiting" : Str), w), (("due" : Str), tv due), (("request" : Str), e)] ++ sp)) σ G := by
  have s1 := bump_one hst src
  have s2 := bump_two hst src
  have en : decide (due ≠ now) = !decide (due = now) := decide_not
  rw [en] at hG
  clear en
  have main : ∀ sp1, (sp1 = [] ∨ ∃ g h, sp1 = [(("bit" : Str), g), (("living" : Str), h)]) →
      exs (ev tab 159) (((b_ho.1.drop 6).take 2).drop 1) (hoR p t tr st o me b now ([(("turn" : Str), V.int k), (("manip" : Str), mv src), (("asked" : Str), ask), (("waiting" : Str), w), (("due" : Str), tv due), (("request" : Str), e), (("bits" : Str), .tup [.int (if src then 128 else 256), .int (if src then 16 else 32)])] ++ sp1)) σ G := fun sp1 h => by
    refine for_step (vs := bitsL (decide (due = now)) src) (fun K' h => ?_) (by unfold bitsL; split <;> exact Nat.le_of_ble_eq_true rfl) ?_
    · walk_at "sw"
      rw [eqv_tv]
      cases hdn : decide (due = now) with
      | true =>
        rw [hdn] at h
        walk_at "sw"
        exact h
      | false =>
        rw [hdn] at h
        walk_at "sw"
        exact h
    · cases hdn : decide (due = now) with
      | true =>
        rw [hdn, Bool.not_true, ← s1] at hG
        refine ⟨trivial, asg_name rfl (bit_turn (st := st) (bv := if src then 128 else 256) ?_ ?_ (bit_ok1 src) ?_)⟩
        · rcases h with rfl | ⟨g, a, rfl⟩ <;> rfl
        · rcases h with rfl | ⟨g, a, rfl⟩ <;> rfl
        · refine ⟨trivial, ?_⟩
          rcases h with rfl | ⟨g, a, rfl⟩
          · exact hG _ _ [] (.inl rfl)
          · exact hG _ _ [_] (.inr ⟨_, rfl⟩)
      | false =>
        rw [hdn, Bool.not_false, ← s2] at hG
        refine ⟨trivial, asg_name rfl (bit_turn (st := st) (bv := if src then 128 else 256) ?_ ?_ (bit_ok1 src) ?_)⟩
        · rcases h with rfl | ⟨g, a, rfl⟩ <;> rfl
        · rcases h with rfl | ⟨g, a, rfl⟩ <;> rfl
        · refine ⟨trivial, asg_name rfl (bit_turn (st := bump st (if src then 128 else 256)) (bv := if src then 16 else 32) ?_ ?_ (bit_ok2 src) ?_)⟩
          · rcases h with rfl | ⟨g, a, rfl⟩ <;> rfl
          · rcases h with rfl | ⟨g, a, rfl⟩ <;> rfl
          · refine ⟨trivial, ?_⟩
            rcases h with rfl | ⟨g, a, rfl⟩
            · exact hG _ _ [] (.inl rfl)
            · exact hG _ _ [_] (.inr ⟨_, rfl⟩)
  refine exs_cut 1 fun G2 hG2 _ => ?_
  rcases hsp with rfl | ⟨a1, a2, a3, rfl⟩
  · have m := hG2 _ σ (main [] (.inl rfl))
    clear main hG
    cases src
    all_goals
      walk_at "sw"
      exact m
  · have m := hG2 _ σ (main [(("bit" : Str), a2), (("living" : Str), a3)] (.inr ⟨_, _, rfl⟩))
    clear main hG
    cases src
    all_goals
      walk_at "sw"
      exact m
end

section
open PySem PySem.W
open scoped Classical

theorem eqv_told {t x : Tu} {s : Int} : PyData.eqv (.tuple [.int 7, td t, td x, .int s]) (.tuple [.int 7, td t, td x, .int s]) = true := by
  simp [PyData.eqv, PyData.eqvAll, td]
theorem ho_5 {σ : SH} {p o me b : Nat} {t now due : Tu} {tr st k : Int} {src : Bool} {ask e f g : V} {w : V} {sp : List (Str × V)} {G : KS} (hM : MeW σ me t (inv due) st) (hd : Dom due)
    (hsp : sp = [] ∨ ∃ h, sp = [(("living" : Str), h)])
    (hG : ∀ σ', Ag [] σ σ' → G .next (hoR p t tr st o me b now ([(("turn" : Str), V.int k), (("manip" : Str), mv src), (("asked" : Str), ask), (("waiting" : Str), w), (("due" : Str), tv due), (("request" : Str), e), (("bits" : Str), f), (("bit" : Str), g)] ++ sp)) σ') :
    exs (ev tab 159) ((b_ho.1.drop 8).take 1) (hoR p t tr st o me b now ([(("turn" : Str), V.int k), (("manip" : Str), mv src), (("asked" : Str), ask), (("waiting" : Str), w), (("due" : Str), tv due), (("request" : Str), e), (("bits" : Str), f), (("bit" : Str), g)] ++ sp)) σ G := by
  have hM : σ[me]? = some (.inst 122 (talkAs 7 (tv t) (tv (inv due)) 0 st)) := hM
  rcases hsp with rfl | ⟨a, rfl⟩
  all_goals
    walk_at "sw"
    first | refine oP_of hM ?_ | rw [hM]
    walk_at "sw"
    first | refine oP_of hM ?_ | rw [hM]
    walk_at "sw"
    first | refine oP_of hM ?_ | rw [hM]
    walk_at "sw"
    first | refine oP_of hM ?_ | rw [hM]
    walk_at "sw"
    refine ⟨due, rfl, hd, fun σ2 A2 => ?_⟩
    walk_at "sw"
    have e := eqv_told (t := t) (x := inv due) (s := st)
    unfold td at e
    first | refine oP_of e ?_ | rw [e]
    walk_at "sw"
    exact hG σ2 A2

theorem ho_6 {σ : SH} {p o me : Nat} {B : Bk} {rs : List Rc} {t now due : Tu} {tr st k : Int} {src : Bool} {ask e f g : V} {w : V} {sp : List (Str × V)} {G : KS} (hB : BookW σ B (live rs)) (hO : OthW σ o rs) (hl : rs.length ≤ 24)
    (hsp : sp = [] ∨ ∃ h, sp = [(("living" : Str), h)])
    (hG : ∀ σ' h, Ag [] σ σ' → G .next (hoR p t tr st o me B.b due ([(("turn" : Str), V.int k), (("manip" : Str), mv src), (("asked" : Str), ask), (("waiting" : Str), w), (("due" : Str), tv due), (("request" : Str), e), (("bits" : Str), f), (("bit" : Str), g), (("living" : Str), h)])) σ') :
    exs (ev tab 159) (b_ho.1.drop 9) (hoR p t tr st o me B.b now ([(("turn" : Str), V.int k), (("manip" : Str), mv src), (("asked" : Str), ask), (("waiting" : Str), w), (("due" : Str), tv due), (("request" : Str), e), (("bits" : Str), f), (("bit" : Str), g)] ++ sp)) σ G := by
  have hlv : (live rs).length ≤ rs.length := List.length_filter_le _ _
  obtain ⟨trk, ex, hbk, hex, hpn⟩ := hB.book
  have hh := heads_sub hO.each
  have hf := heads_live (rs := rs) fun q hq => by have := hO.low hq; omega
  rcases hsp with rfl | ⟨a, rfl⟩
  all_goals
    walk_at "sw"
    first | refine oP_of hO.oth ?_ | rw [hO.oth]
    walk_at "sw"
    first | refine oP_of hh ?_ | rw [hh]
    have hl1 : (rs.map fun r => (tv r.key, V.ref r.row)).length ≤ 1000 := by rw [List.length_map]; omega
    walk_at "sw"
    first | refine oP_of hf ?_ | rw [hf]
    generalize hσ1 : σ ++ [SO.list _] = σ1
    have h1 : σ1[σ.length]? = some (.list (((live rs).map (·.num)).map .int)) := by rw [← hσ1]; exact get_new
    have hbk1 := app' hσ1 hbk
    have htk1 := app' hσ1 hB.talks
    have htb1 := app' hσ1 hB.table
    have A1 : Ag [] σ σ1 := by rw [← hσ1]; exact Ag.app _ _ _
    first | refine oP_of h1 ?_ | rw [h1]
    refine oP_of (ints_map _) ?_
    refine ⟨by rw [List.length_map]; omega, fun ns hns => ?_⟩
    have hnl : ns.length = (live rs).length := by rw [hns.1.length_eq, List.length_map]
    generalize hσ2 : σ1 ++ [SO.list (ns.map .int)] = σ2
    have h2 : σ2[σ1.length]? = some (.list (ns.map .int)) := by rw [← hσ2]; exact get_new
    have hbk2 := app' hσ2 hbk1
    have htk2 := app' hσ2 htk1
    have htb2 := app' hσ2 htb1
    have A2 : Ag [] σ σ2 := by rw [← hσ2]; exact A1.trans (Ag.app _ _ _)
    walk_at "sw"
    first | refine oP_of hbk2 ?_ | rw [hbk2]
    walk_at "sw"
    first | refine oP_of htk2 ?_ | rw [htk2]
    refine oP_of (ints_talks _) ?_
    refine ⟨by rw [List.length_map]; omega, fun ns2 hns2 => ?_⟩
    have e := sorted_one hns2 hns
    subst e
    generalize hσ3 : σ2 ++ [SO.list (ns2.map .int)] = σ3
    have h3 : σ3[σ2.length]? = some (.list (ns2.map .int)) := by rw [← hσ3]; exact get_new
    have h23 := app' hσ3 h2
    have hbk3 := app' hσ3 hbk2
    have htb3 := app' hσ3 htb2
    have A3 : Ag [] σ σ3 := by rw [← hσ3]; exact A2.trans (Ag.app _ _ _)
    walk_at "sw"
    refine oP_of (pyOf_ints h3) (oP_of (pyOf_ints h23) ?_)
    refine ck_of (c := _ ∧ _) ⟨shaped_ints _, shaped_ints _⟩ ?_
    first | refine oP_of eqv_ints ?_ | rw [eqv_ints]
    walk_at "sw"
    first | refine oP_of hbk3 ?_ | rw [hbk3]
    walk_at "sw"
    first | refine oP_of htb3 ?_ | rw [htb3]
    walk_at "sw"
    refine ⟨by rw [tab_len]; omega, ?_⟩
    walk_at "sw"
    first | refine oP_of h23 ?_ | rw [h23]
    walk_at "sw"
    refine ⟨by rw [List.length_map]; omega, ?_⟩
    walk_at "sw"
    have e4 : PyData.eqv (.int ((tabOf (live rs)).length : Int)) (.int (2 * ((ns2.map V.int).length : Int))) = true := by
      rw [eqv_int, decide_eq_true_eq, tab_len, List.length_map, hnl]
      omega
    first | refine oP_of e4 ?_ | rw [e4]
    walk_at "sw"
    exact hG σ3 _ A3
end

section
open PySem PySem.W
open scoped Classical

theorem exs_from {r : Rec} {K : KS} {b : List Stmt} {ρ : Loc} {σ : SH} (i n j : Nat) (hj : j = i + n) (h : ∀ G : KS, (∀ ρ1 σ1, exs r (b.drop j) ρ1 σ1 K → G .next ρ1 σ1) → exs r ((b.drop i).take n) ρ σ G) : exs r (b.drop i) ρ σ K := by
  subst hj
  refine exs_cut2 n fun G hG _ _ => h G fun ρ1 σ1 q => hG ρ1 σ1 ?_
  rw [List.drop_drop]
  exact q
theorem ag_low {ks ls : List Nat} {σ0 σ σ' : SH} (A : Ag ls σ0 σ) (A' : Ag ks σ σ') (h : ∀ i ∈ ks, i ∈ ls ∨ σ0.length ≤ i) : Ag ls σ0 σ' := ⟨Nat.le_trans A.1 A'.1, fun i o hi hn => A'.2 i o (A.2 i o hi hn) fun hm => by
  rcases h i hm with q | q
  · exact hn q
  · have := (List.getElem?_eq_some_iff.mp hi).1
    omega⟩

structure HoI (σ0 σ : SH) (p r o me : Nat) (B : Bk) (t now : Tu) (tr st n : Int) (rs : List Rc) : Prop where
  pen : PenW σ p r
  book : BookW σ B (live rs)
  oth : OthW σ o rs
  mew : MeW σ me t (inv now) st
  own : Own n now
  st0 : 0 ≤ st
  N : HoN B p r o
  trs : B.tr = tr ∧ 1 ≤ tr ∧ tr ≤ 100
  ag : Ag [p, r] σ0 σ
  low : σ0.length ≤ B.b ∧ σ0.length ≤ B.tb ∧ σ0.length ≤ B.tk ∧ σ0.length ≤ o ∧ σ0.length ≤ me
  rows : ∀ q ∈ rs, σ0.length ≤ q.row ∧ σ0.length ≤ q.ref
noncomputable def HoS (sp : List (Str × V)) : Prop := ∃ a b c d e f g h, sp = [(("manip" : Str), a), (("asked" : Str), b), (("waiting" : Str), c), (("due" : Str), d), (("request" : Str), e), (("bits" : Str), f), (("bit" : Str), g), (("living" : Str), h)]

set_option maxHeartbeats 400000 in
theorem ho_turn {σ0 σ : SH} {p r o me : Nat} {B : Bk} {t now : Tu} {tr st k n : Int} {rs : List Rc} {sp : List (Str × V)} {G : KS} (I : HoI σ0 σ p r o me B t now tr st (n + 1) rs) (hn : 0 ≤ n) (hl : rs.length ≤ 16)
    (hsp : (sp = [] ∧ decide (k < 2) = true) ∨ HoS sp)
    (hG : ∀ σ' now' st' rs' sp', HoI σ0 σ' p r o me B t now' tr st' n rs' → rs'.length ≤ rs.length + 8 → HoS sp' → G .next (hoR p t tr st' o me B.b now' ((("turn" : Str), V.int k) :: sp')) σ') :
    exs (ev tab 159) b_ho.1 (hoR p t tr st o me B.b now ((("turn" : Str), V.int k) :: sp)) σ G := by
  obtain ⟨hW, hB, hOt, hM, hO, hst, hN, ⟨rfl, htr⟩, hA, hlow, hrows⟩ := I
  show exs (ev tab 159) (b_ho.1.drop 0) _ σ G
  refine exs_from 0 2 2 rfl fun G1 hG1 => ?_
  refine ho_1 hW hO hn (hsp.elim (fun h => .inl h.1) .inr) fun src q σ1 sp1 hq hk W1 A1 hs1 => hG1 _ _ ?_
  clear hG1
  have hB1 : BookW σ1 B (live rs) := hB.ag2 A1 (pen_foot hW hB hN.pn.1 ⟨hN.ne.2.2.2.2.1, hN.ne.2.2.2.2.2⟩ hN.pn.2)
  have hW0 := hW
  obtain ⟨hpr, rest, row, hp, hr, hrow⟩ := hW0
  have hO1 : OthW σ1 o rs := hOt.ag0 A1 (by
    simp only [List.mem_cons, List.not_mem_nil, or_false, not_or]
    exact ⟨hN.ne.2.2.2.1, ne_of hOt.oth hr (fun e => nomatch e)⟩) fun q hq => by
    simp only [List.mem_cons, List.not_mem_nil, or_false, not_or]
    exact row_pen hW hOt hq
  have hM1 : MeW σ1 me t (inv now) st := A1.2 _ _ hM (by
    simp only [List.mem_cons, List.not_mem_nil, or_false, not_or]
    exact ⟨ne_of hM hp (fun e => nomatch e), ne_of hM hr (fun e => nomatch e)⟩)
  refine exs_from 2 3 5 rfl fun G2 hG2 => ?_
  refine ho_2 W1 hB1 hO1 hM1 hO hn hq htr hl hN (hs1.elim (fun h => .inl h.2) .inr) fun rs1 pk σ2 w sp2 epk W2 B2 O2 al M2 l2 n2 A2 hs2 => hG2 _ _ ?_
  clear hG2
  have hs2' : (sp2 = [] ∧ decide (k < 2) = true) ∨ ∃ e f g h, sp2 = [(("request" : Str), e), (("bits" : Str), f), (("bit" : Str), g), (("living" : Str), h)] := by
    rcases hs2 with ⟨h1, h2⟩ | h2
    · rcases hs1 with ⟨h3, _⟩ | ⟨c, d, e, f, g, h, rfl⟩
      · rcases hsp with ⟨_, h5⟩ | ⟨a, b, c, d, e, f, g, h, rfl⟩
        · exact .inl ⟨h2, h5⟩
        · cases h3
      · cases h1
    · exact .inr h2
  have hdn := own_dom hO
  have hbn := own_big hO (by omega)
  have own : Own n pk.1 := by
    first | refine oP_of epk ?_ | rw [epk]
    rcases pick_mem (al := aliveR rs1) (ws := waitL now src q B.tr) (d := now) with h | ⟨c, hc, h⟩
    · rw [h]; exact own_mono hO (by omega)
    · rw [h]; exact own_wait hO hn hq c hc
  refine exs_from 5 1 6 rfl fun G3 hG3 => ?_
  refine ho_3 B2 M2 hdn hbn hq.1 htr hk hs2' fun σ3 e sp3 B3 M3 A3 hs3 => hG3 _ _ ?_
  clear hG3
  rw [al, ← epk] at B3 M3
  obtain ⟨rs2, hrs2⟩ : ∃ rs2, rs2 = (if pk.2 then dropR (inv pk.1) rs1 else rs1) := ⟨_, rfl⟩
  have elive : live rs2 = after (live rs1) pk := by
    first | refine oP_of hrs2 ?_ | rw [hrs2]
    unfold after
    split
    · exact live_drop _ _
    · rfl
  have elen : rs2.length = rs1.length := by
    first | refine oP_of hrs2 ?_ | rw [hrs2]
    split
    · exact dropR_len _ _
    · rfl
  have erows : ∀ q ∈ rs2, ∃ x ∈ rs1, q.row = x.row ∧ q.ref = x.ref := fun q hq => by
    rw [hrs2] at hq
    split at hq
    · exact dropR_mem hq
    · exact ⟨q, hq, rfl, rfl⟩
  rw [← hrs2] at O2
  rw [← elive] at B3
  have W2' := W2
  obtain ⟨hpr2, rest2, row2, hp2, hr2, hrow2⟩ := W2'
  have hf2 := pen_foot W2 B2 hN.pn.1 ⟨hN.ne.2.2.2.2.1, hN.ne.2.2.2.2.2⟩ hN.pn.2
  have M2' : σ2[me]? = some (.inst 122 (talkAs 7 (tv t) (tv (inv now)) 0 st)) := M2
  have W3 : PenW σ3 p r := W2.ag0 A3 (by
    simp only [List.mem_cons, not_or]
    exact ⟨ne_of hp2 M2' (fun e => nomatch e), (hf2 p (by simp)).1⟩) (by
    simp only [List.mem_cons, not_or]
    exact ⟨ne_of hr2 M2' (fun e => nomatch e), (hf2 r (by simp)).1⟩)
  obtain ⟨trk, ex, hbk2, hex2, hpn2⟩ := B2.book
  have O3 : OthW σ3 o rs2 := O2.ag0 A3 (by
    simp only [foot, List.mem_cons, List.mem_map, not_or]
    refine ⟨ne_of O2.oth M2' (fun e => nomatch e), ne_of O2.oth hbk2 (fun e => nomatch e), hN.ne.1, hN.ne.2.1, ?_⟩
    rintro ⟨x, hx, e⟩
    exact ne_of (B2.each x hx) O2.oth (fun e => nomatch e) e) (fun q hq => by
    have h := O2.each q hq
    simp only [foot, List.mem_cons, List.mem_map, not_or]
    refine ⟨ne_of h M2' (fun e => nomatch e), ne_of h hbk2 (fun e => nomatch e), ne_of h B2.table (fun e => nomatch e), ne_of h B2.talks (fun e => nomatch e), ?_⟩
    rintro ⟨x, hx, e⟩
    exact ne_of (B2.each x hx) h (fun e => nomatch e) e)
  have r1 : ∀ q ∈ rs1, σ0.length ≤ q.row ∧ σ0.length ≤ q.ref := fun q hq => by
    rcases n2 q hq with h | h
    · exact hrows q h
    · have := hA.1
      have := A1.1
      exact ⟨by omega, by omega⟩
  have A1' := hA.trans A1
  have A2' := ag_low A1' A2 (fun i hi => by
    rcases List.mem_append.mp hi with hi | hi
    · simp only [List.mem_cons, List.not_mem_nil, or_false] at hi ⊢
      rcases hi with rfl | rfl | rfl | rfl | rfl
      · exact .inl (.inl rfl)
      · exact .inl (.inr rfl)
      · exact .inr hlow.2.1
      · exact .inr hlow.2.2.1
      · exact .inr hlow.2.2.2.1
    · obtain ⟨x, hx, rfl⟩ := List.mem_map.mp hi
      exact .inr (r1 x hx).1)
  have A3' := ag_low A2' A3 (fun i hi => by
    simp only [foot, List.mem_cons, List.mem_map] at hi
    rcases hi with rfl | rfl | rfl | rfl | ⟨x, hx, rfl⟩
    · exact .inr hlow.2.2.2.2
    · exact .inr hlow.1
    · exact .inr hlow.2.1
    · exact .inr hlow.2.2.1
    · exact .inr (r1 x (live_mem hx)).2)
  refine exs_from 6 2 8 rfl fun G4 hG4 => ?_
  refine ho_4 hst hs3 fun f g sp4 hs4 => hG4 _ _ ?_
  clear hG4
  refine exs_from 8 1 9 rfl fun G5 hG5 => ?_
  refine ho_5 M3 (own_dom own) hs4 fun σ5 A5 => hG5 _ _ ?_
  clear hG5
  refine ho_6 (B3.ag1 A5) (O3.ag0 A5 no_mem (fun _ _ => no_mem)) (by omega) hs4 fun σ6 h A6 => ?_
  have A56 := A5.trans A6
  refine hG σ6 pk.1 _ rs2 _ ⟨W3.ag0 A56 no_mem no_mem, B3.ag1 A56, O3.ag0 A56 no_mem (fun _ _ => no_mem), A56.2 _ _ M3 no_mem, own, st_pos hst _ _, hN, ⟨rfl, htr⟩, A3'.trans (A56.mono (fun _ q => nomatch q)), hlow, fun q hq => ?_⟩ (by omega) ⟨_, _, _, _, _, _, _, _, rfl⟩
  obtain ⟨x, hx, h1, h2⟩ := erows q hq
  rw [h1, h2]
  exact r1 x hx
end

section
open PySem PySem.W
open scoped Classical

theorem comp_any {r : Rec} {elt : Expr} {x : Str} {ifs : List Expr} {still : SH → Prop} {σ : SH} {sc : Scope} {y : Str} {u : V} (hs : still σ) (hxy : ∀ v w, (Loc.mk sc [(y, u)]).set x v = ⟨sc, [(y, u), (x, v)]⟩ ∧ (Loc.mk sc [(y, u), (x, w)]).set x v = ⟨sc, [(y, u), (x, v)]⟩)
    (h1 : ∀ i : Int, 0 ≤ i → i < 6 → ∀ G : Bool → SH → Prop, (∀ b, G b σ) → testsW r ifs ⟨sc, [(y, u), (x, .int i)]⟩ σ G)
    (h2 : ∀ i : Int, 0 ≤ i → i < 6 → ∀ G : KE, (∀ n : Int, 0 ≤ n → G (.int n) σ) → r.e elt ⟨sc, [(y, u), (x, .int i)]⟩ σ G) :
    ∀ (vs : List V) (ρ : Loc) (K : List V → SH → Prop), (∀ v ∈ vs, ∃ i : Int, v = .int i ∧ 0 ≤ i ∧ i < 6) → (ρ = ⟨sc, [(y, u)]⟩ ∨ ∃ w, ρ = ⟨sc, [(y, u), (x, w)]⟩) → (∀ ns : List Int, (∀ n ∈ ns, 0 ≤ n) → K (ns.map .int) σ) → compW r elt x ifs still vs ρ σ K
  | [], _, _, _, _, hK => ⟨hs, hK [] (fun _ q => nomatch q)⟩
  | v :: vs, ρ, K, hv, hρ, hK => by
    obtain ⟨i, rfl, h0, h6⟩ := hv v List.mem_cons_self
    have e : ρ.set x (.int i) = ⟨sc, [(y, u), (x, .int i)]⟩ := by
      rcases hρ with rfl | ⟨w, rfl⟩
      · exact (hxy _ .none).1
      · exact (hxy _ w).2
    have hv' : ∀ v ∈ vs, ∃ i : Int, v = .int i ∧ 0 ≤ i ∧ i < 6 := fun v q => hv v (List.mem_cons_of_mem _ q)
    refine ⟨hs, ?_⟩
    first | refine oP_of e ?_ | rw [e]
    refine h1 i h0 h6 _ fun b => ?_
    cases b with
    | true =>
      show r.e elt ⟨sc, [(y, u), (x, .int i)]⟩ σ fun yv σ2 => compW r elt x ifs still vs ⟨sc, [(y, u), (x, .int i)]⟩ σ2 fun ys σ3 => K (yv :: ys) σ3
      refine h2 i h0 h6 _ fun n hn => ?_
      exact comp_any hs hxy h1 h2 vs _ _ hv' (.inr ⟨_, rfl⟩) fun ns hns => hK (n :: ns) (fun m hm => by
        rcases List.mem_cons.mp hm with rfl | hm
        · exact hn
        · exact hns m hm)
    | false => exact comp_any hs hxy h1 h2 vs _ _ hv' (.inr ⟨_, rfl⟩) hK
theorem pow2_ok {j : Int} (h0 : 0 ≤ j) (h : j < 6) : (2 : Int) ^ j.toNat ≠ 0 ∧ ((2 : Int) ^ j.toNat).natAbs < 2 ^ 60 := by
  have : ∀ i : Fin 6, (2 : Int) ^ i.val ≠ 0 ∧ ((2 : Int) ^ i.val).natAbs < 2 ^ 60 := by decide
  exact this ⟨j.toNat, by omega⟩
theorem sum_pos : ∀ ns : List Int, (∀ n ∈ ns, 0 ≤ n) → 0 ≤ ns.sum
  | [], _ => by decide
  | n :: ns, h => by
    have := h n List.mem_cons_self
    have := sum_pos ns fun m hm => h m (List.mem_cons_of_mem _ hm)
    rw [List.sum_cons]; omega

theorem comp_step {T : Tab} {n : Nat} {elt : Expr} {x : Str} {xp : Pos} {iter : Expr} {ifs : List Expr} {sc : Scope} {pos : Pos} {ρ : Loc} {σ : SH} {K : KE} {cs : List (Str × V)} {vs : List V} (h1 : valsComp elt [⟨.Name x xp, iter, ifs, 0⟩] sc = none) (h2 : capture ρ (frees sc) = some cs) (h3 : compOk sc x = true)
    (h4 : ∀ K' : Src → SH → Prop, K' (.fixed vs) σ → srcW (ev T n) iter ρ σ K') (h5 : vs.length ≤ 1000)
    (h : compW (ev T n) elt x ifs (Src.fixed vs).still vs ⟨inComp sc, cs⟩ σ fun vs σ2 => K (.ref σ2.length) (σ2 ++ [.list vs])) : (ev T (n + 1)).e (.ListComp elt [⟨.Name x xp, iter, ifs, 0⟩] sc pos) ρ σ K := by
  have g : genW (ev T n) elt ⟨.Name x xp, iter, ifs, 0⟩ sc ρ σ K := oP_of (a := x) rfl (oP_of h2 (ck_of rfl ⟨h3, h4 _ ⟨⟨trivial, h5⟩, h⟩⟩))
  show (match valsComp elt [⟨.Name x xp, iter, ifs, 0⟩] sc with
    | some o => (ev T n).e o ρ σ fun v σ1 => headsW v σ1 K
    | none => oneP [⟨.Name x xp, iter, ifs, 0⟩] fun g => genW (ev T n) elt g sc ρ σ K)
  rw [h1]
  exact oP_of (a := ⟨.Name x xp, iter, ifs, 0⟩) rfl g
noncomputable def argOf (b : List Stmt) (n : Nat) : Expr := match b[n]? with
  | some (.Assign _ (.Call _ [e] _ _) _) => e
  | _ => .Constant .none 0 default
noncomputable def e_lc : { e : Expr // argOf b_law_holds.1 2 = e } := by
  refine ⟨?b, ?h⟩
  rotate_left
  conv => lhs; whnf
noncomputable def hoR0 (p : Nat) (t : Tu) (tr st : Int) : Loc := ⟨fd_law_holds.1.scope, (nsOf fd_law_holds.1).zip [.ref p] ++ [(("t" : Str), tv t), (("tries" : Str), V.int tr), (("status" : Str), V.int st)]⟩
theorem asg_bi {T : Tab} {n : Nat} {x f : Str} {p p1 p2 p3 p4 : Pos} {a : Expr} {b : List Comprehension} {c : Scope} {ρ : Loc} {σ : SH} {G : KS} (h1 : isGlo ρ f = true) (h3 : isBuiltin f = true) (h4 : isLoc ρ x = true)
    (h : (ev T n).e (.ListComp a b c p4) ρ σ fun v σ1 => biW f [v] σ1 fun w σ2 => G .next (ρ.set x w) σ2) : exs (ev T (n + 2)) [.Assign [.Name x p] (.Call (.Name f p1) [.ListComp a b c p4] [] p2) p3] ρ σ G := by
  refine ck_of (c := isComp (.Call (.Name f p1) [.ListComp a b c p4] [] p2) = false ∨ isAttr (.Name x p) = true) (.inl rfl) ?_
  refine ck_of (c := isGlo ρ f = true ∧ noStar [.ListComp a b c p4] = true ∧ [Expr.ListComp a b c p4].length ≤ 20) ⟨h1, rfl, Nat.le_of_ble_eq_true rfl⟩ ?_
  unfold callN
  rw [h3]
  have e : ∀ (w : V) (σ2 : SH), ck (isLoc ρ x = true) (G .next (ρ.set x w) σ2) = G .next (ρ.set x w) σ2 := fun w σ2 => propext ⟨fun q => (ck.and q).2, ck_of h4⟩
  show (ev T n).e (.ListComp a b c p4) ρ σ fun v σ1 => biW f [v] σ1 fun w σ2 => ck (isLoc ρ x = true) (G .next (ρ.set x w) σ2)
  simp only [e]
  exact h
theorem ho_A {σ : SH} {p r : Nat} {G : KS} (W : PenW σ p r) (hG : ∀ t tr st σ', Own 3 t → (1 ≤ tr ∧ tr ≤ 100) → 0 ≤ st → PenW σ' p r → Ag [p, r] σ σ' → G .next (hoR0 p t tr st) σ') :
    exs (ev tab 160) (b_law_holds.1.take 3) ⟨fd_law_holds.1.scope, (nsOf fd_law_holds.1).zip [.ref p]⟩ σ G := by
  refine exs_cut 2 fun G2 hG2 _ => ?_
  walk_at "sw"
  refine ⟨p, r, rfl, W, fun t σ1 hO W1 A1 => ?_⟩
  walk_at "sw"
  refine ⟨p, r, _, rfl, W1, by decide, by decide, fun d1 σ2 h01 h11 W2 A2 => ?_⟩
  walk_at "sw"
  refine ⟨p, r, _, rfl, W2, by decide, by decide, fun d2 σ3 h02 h12 W3 A3 => ?_⟩
  walk_at "sw"
  refine hG2 (hoR0 p t (1 + d1) d2) σ3 ?_
  clear hG2
  have A := (A1.trans A2).trans A3
  have h : (ev tab 158).e e_lc.1 (hoR0 p t (1 + d1) d2) σ3 (fun v σ1 => biW ("sum" : Str) [v] σ1 fun w σ2 => G .next ((hoR0 p t (1 + d1) d2).set ("status" : Str) w) σ2) := by
    refine comp_step (vs := intRow 6) rfl rfl rfl (fun K' h => ?_) (Nat.le_of_ble_eq_true rfl) ?_
    · walk_at "sw"
      exact h
    · refine comp_any (u := .int d2) ?_ ?_ (fun i h0 h6 G hG => ?_) (fun i h0 h6 G hG => ?_) _ _ _ (fun v hv => ?_) (.inl rfl) fun ns hns => ?_
      · exact trivial
      · exact fun v w => ⟨rfl, rfl⟩
      · walk_at "sw"
        refine ⟨pow2_ok h0 h6, ?_⟩
        walk_at "sw"
        exact hG _
      · walk_at "sw"
        refine tup_pick h0 h6 (Nat.le_of_ble_eq_true rfl) ?_
        intro v hv
        simp only [List.mem_cons, List.not_mem_nil, or_false] at hv
        rcases hv with rfl | rfl | rfl | rfl | rfl | rfl <;> exact hG _ (by decide)
      · obtain ⟨i, hi, rfl⟩ : ∃ i ∈ List.range 6, V.int ((i : Nat) : Int) = v := by
          rw [intRow_map] at hv
          exact List.mem_map.mp hv
        have := List.mem_range.mp hi
        exact ⟨i, rfl, by omega, by omega⟩
      · walk_at "sw"
        refine oP_of get_new (oP_of (ints_map _) ?_)
        exact hG t (1 + d1) ns.sum _ hO (by omega) (sum_pos ns hns) (W3.ag0 (Ag.app [] _ _) no_mem no_mem) (A.trans (Ag.app _ _ _))
  exact asg_bi rfl rfl rfl h
end

section
open PySem PySem.W
open scoped Classical

theorem ho_B {σ0 σ : SH} {p r : Nat} {t : Tu} {tr st : Int} {G : KS} (W : PenW σ p r) (hO : Own 3 t) (htr : 1 ≤ tr ∧ tr ≤ 100) (hst : 0 ≤ st) (hA : Ag [p, r] σ0 σ)
    (hG : ∀ σ' B me o, HoI σ0 σ' p r o me B t t tr st 3 [] → G .next (hoR p t tr st o me B.b t []) σ') :
    exs (ev tab 160) ((b_law_holds.1.drop 3).take 2) (hoR0 p t tr st) σ G := by
  walk_at "sw"
  refine ⟨tr, rfl, ?_⟩
  generalize hσ1 : σ ++ [SO.inst 144 (bookAs (bookAt σ.length tr) (σ.length + 3) (σ.length + 4)), .dict [], .dict [], .dict [], .list [], .dict []] = σ1
  have W1 : PenW σ1 p r := W.ag0 (ks := []) (by rw [← hσ1]; exact Ag.app _ _ _) no_mem no_mem
  have A1 : Ag [p, r] σ0 σ1 := hA.trans (by rw [← hσ1]; exact Ag.app _ _ _)
  have gb : ∀ i x, [SO.inst 144 (bookAs (bookAt σ.length tr) (σ.length + 3) (σ.length + 4)), .dict [], .dict [], .dict [], .list [], .dict []][i]? = some x → σ1[σ.length + i]? = some x := fun i x h => by
    rw [← hσ1, List.getElem?_append_right (by omega), Nat.add_sub_cancel_left]
    exact h
  obtain ⟨B, hB⟩ : ∃ B : Bk, B = ⟨σ.length, σ.length + 1, σ.length + 2, σ.length + 5, tr, r⟩ := ⟨_, rfl⟩
  obtain ⟨hpr, rest, row, hp, hr, hrow⟩ := W
  have hpl := (List.getElem?_eq_some_iff.mp hp).1
  have hrl := (List.getElem?_eq_some_iff.mp hr).1
  have hlen1 : σ1.length = σ.length + 6 := by rw [← hσ1]; simp
  have B1 : BookW σ1 B [] := by
    subst hB
    refine ⟨⟨σ.length + 3, σ.length + 4, gb 0 _ rfl, gb 4 _ rfl, ?_, ?_⟩, gb 1 _ rfl, gb 2 _ rfl, gb 5 _ rfl, (fun _ q => nomatch q), ?_, List.nodup_nil, List.nodup_nil, (fun _ q => nomatch q), by decide⟩
    · show σ.length + 4 ≠ r
      omega
    · show r < σ1.length
      omega
    · show σ.length + 1 ≠ σ.length + 2 ∧ σ.length + 5 ≠ σ.length + 1 ∧ σ.length + 5 ≠ σ.length + 2
      omega
  have hBb : V.ref σ.length = V.ref B.b := by rw [hB]
  have low : σ.length ≤ B.b ∧ σ.length ≤ B.tb ∧ σ.length ≤ B.tk ∧ B.tb < σ1.length ∧ B.tk < σ1.length ∧ B.fl < σ1.length ∧ σ.length ≤ B.fl ∧ B.tr = tr ∧ B.pn = r := by
    subst hB
    rw [hlen1]
    exact ⟨Nat.le_refl _, Nat.le_add_right _ _, Nat.le_add_right _ _, Nat.add_lt_add_left (by decide) _, Nat.add_lt_add_left (by decide) _, Nat.add_lt_add_left (by decide) _, Nat.le_add_right _ _, rfl, rfl⟩
  first | refine oP_of hBb ?_ | rw [hBb]
  clear hBb hB gb hσ1
  walk_at "sw"
  refine ⟨t, rfl, own_dom hO, fun σ2 A2 => ?_⟩
  walk_at "sw"
  refine ⟨_, t, inv t, rfl, ?_⟩
  have A02 := A2.1
  have B2 := B1.ag1 A2
  have W2 := W1.ag0 A2 no_mem no_mem
  generalize hσ3 : σ2 ++ [SO.inst 122 (talkAs 7 (tv t) (tv (inv t)) 0 0)] = σ3
  have A3 : Ag [] σ2 σ3 := by rw [← hσ3]; exact Ag.app _ _ _
  have M3 : σ3[σ2.length]? = some (.inst 122 (talkAs 7 (tv t) (tv (inv t)) 0 0)) := by rw [← hσ3]; exact get_new
  have hlen3 : σ3.length = σ2.length + 1 := by rw [← hσ3]; simp
  walk_at "sw"
  generalize hσ4 : σ3 ++ [SO.dict _] = σ4
  have A4 : Ag [] σ3 σ4 := by rw [← hσ4]; exact Ag.app _ _ _
  have O4 : σ4[σ3.length]? = some (.dict []) := by rw [← hσ4]; exact get_new
  have M4 := A4.2 _ _ M3 no_mem
  have B4 := (B2.ag1 A3).ag1 A4
  have W4 := (W2.ag0 A3 no_mem no_mem).ag0 A4 no_mem no_mem
  walk_at "sw"
  first | refine oP_of M4 ?_ | rw [M4]
  walk_at "sw"
  generalize hσ5 : σ4.set σ2.length _ = σ5
  walk_at "sw"
  have A5 : Ag [σ2.length] σ4 σ5 := by rw [← hσ5]; exact Ag.set _ _ _
  have M5 : σ5[σ2.length]? = some (.inst 122 (talkAs 7 (tv t) (tv (inv t)) 0 st)) := set_eq' hσ5 M4
  have B5 : BookW σ5 B (live []) := by rw [← hσ5]; exact book_me B4 M4
  have O5 := set_ne' hσ5 O4 (by omega)
  have W5 : PenW σ5 p r := by
    obtain ⟨hpr, rest, row, hp, hr, hrow⟩ := W4
    exact ⟨hpr, rest, row, set_ne' hσ5 hp (ne_of M4 hp (fun e => nomatch e)), set_ne' hσ5 hr (ne_of M4 hr (fun e => nomatch e)), hrow⟩
  have A0 : Ag [p, r] σ0 σ4 := ((A1.trans (A2.mono (fun _ q => nomatch q))).trans (A3.mono (fun _ q => nomatch q))).trans (A4.mono (fun _ q => nomatch q))
  have l0 := hA.1
  have l5 : σ1.length = σ.length + 6 := hlen1
  refine hG σ5 B σ2.length σ3.length ⟨W5, B5, ⟨O5, (fun _ q => nomatch q), (fun i q h => by cases h), List.nodup_nil, (fun _ q => nomatch q)⟩, M5, hO, hst, ⟨?_, low.2.2.2.2.2.2.2.2, ?_⟩, ⟨low.2.2.2.2.2.2.2.1, htr⟩, ag_low A0 A5 (fun i hi => ?_), ?_, (fun _ q => nomatch q)⟩
  · refine ⟨?_, ?_, ?_, ?_, ?_, ?_⟩ <;> omega
  · omega
  · obtain rfl := List.mem_singleton.mp hi
    exact .inr (by omega)
  · refine ⟨?_, ?_, ?_, ?_, ?_⟩ <;> omega

theorem d_l_holds : Does tab 160 fd_law_holds.1 b_law_holds.1 P_l_holds := by
  rintro vs σ K ⟨p, r, rfl, hW, hK⟩
  refine ⟨rfl, ?_⟩
  show exs (ev tab 160) (b_law_holds.1.drop 0) _ σ (retK K)
  refine exs_from 0 3 3 rfl fun G1 hG1 => ?_
  refine ho_A hW fun t tr st σ1 hO htr hst W1 A1 => hG1 _ _ ?_
  clear hG1
  refine exs_from 3 2 5 rfl fun G2 hG2 => ?_
  refine ho_B (σ0 := σ) W1 hO htr hst A1 fun σ2 B me o I => hG2 _ _ ?_
  clear hG2
  conv => whnf
  refine ⟨⟨rfl, rfl⟩, ?_⟩
  conv => whnf
  refine ⟨⟨by decide, by decide⟩, ?_⟩
  conv => whnf
  refine ⟨⟨by decide, trivial⟩, ?_⟩
  refine loop_ind (fun vs ρ σ' => ∃ (i m : Nat) (rs : List Rc) (now : Tu) (st : Int) (sp : List (Str × V)), vs = (List.range' i m).map (fun (k : Nat) => V.int k) ∧ i + m = 3 ∧ HoI σ σ' p r o me B t now tr st (m : Int) rs ∧ rs.length ≤ 8 * i ∧
    ((sp = [] ∧ i = 0) ∨ ∃ a sp', sp = (("turn" : Str), a) :: sp' ∧ HoS sp') ∧ ρ = hoR p t tr st o me B.b now sp) ?_ ?_ _ _ _ ?_
  · rintro ρ σ' ⟨i, m, rs, now, st', sp, e, him, I', hl, hsp, rfl⟩
    refine ⟨trivial, ?_⟩
    have := hK σ' I'.ag
    rcases hsp with ⟨rfl, _⟩ | ⟨a, sp', rfl, hs⟩
    · walk_at "sw"
      exact this
    · walk_at "sw"
      exact this
  · rintro v rest ρ σ' G hG ⟨i, m, rs, now, st', sp, e, him, I', hl, hsp, rfl⟩
    refine ⟨trivial, ?_⟩
    cases m with
    | zero => cases e
    | succ m =>
      rw [List.range'_succ, List.map_cons] at e
      obtain ⟨rfl, rfl⟩ := List.cons.inj e
      obtain ⟨k, hk⟩ : ∃ k : Int, k = (i : Int) := ⟨_, rfl⟩
      rw [← hk]
      obtain ⟨sp2, hset, hsp2⟩ : ∃ sp2, (hoR p t tr st' o me B.b now sp).set ("turn" : Str) (.int k) = hoR p t tr st' o me B.b now ((("turn" : Str), V.int k) :: sp2) ∧ ((sp2 = [] ∧ decide (k < 2) = true) ∨ HoS sp2) := by
        rcases hsp with ⟨rfl, rfl⟩ | ⟨a, sp', rfl, hs⟩
        · exact ⟨[], rfl, .inl ⟨rfl, by subst hk; rfl⟩⟩
        · exact ⟨sp', rfl, .inr hs⟩
      refine asg_name (by rcases hsp with ⟨rfl, rfl⟩ | ⟨a, sp', rfl, hs⟩ <;> rfl) ?_
      first | refine oP_of hset ?_ | rw [hset]
      refine ho_turn (n := (m : Int)) I' (by omega) (by omega) hsp2 fun σ2 now2 st2 rs2 sp3 I2 hl2 hs3 => ?_
      refine hG _ _ ⟨i + 1, m, rs2, now2, st2, _, rfl, by omega, I2, by omega, .inr ⟨_, _, rfl, hs3⟩, rfl⟩
  · exact ⟨0, 3, [], t, st, [], rfl, rfl, I, by decide, .inl ⟨rfl, rfl⟩, rfl⟩
end

section
open PySem PySem.W
open scoped Classical

noncomputable def laR (sp : List (Str × V)) : Loc := ⟨fd_law.1.scope, [(("script" : Str), V.ref 0)] ++ sp⟩
theorem fits_pen2 (x : V) : sameSort [(V.str ("row" : Str), x), (V.str ("rest" : Str), .none)] := ⟨fun e : 2 = 0 => (nomatch e), fun p hp => by
  obtain rfl := List.mem_singleton.mp hp
  rfl⟩
theorem pen_new {σ : SH} {x : Nat} {n : Int} {row : List Int} (h : σ[x]? = some (.list (row.map .int))) (hl : row.length ≤ 18) :
    PenW (σ ++ [SO.dict (dictOfPairs [] [(V.str (Str.ofString "row"), V.ref x), (V.str (Str.ofString "rest"), V.int n)])]) σ.length x :=
  ⟨fun e => by
    have := (List.getElem?_eq_some_iff.mp h).1
    omega, n, row, get_new, get_app h, hl⟩
noncomputable def RowAt (σ : SH) (k j : Nat) : Prop := j ≠ 0 ∧ j ≠ k ∧ ∃ row : List Int, σ[j]? = some (.list (row.map .int)) ∧ row.length ≤ 18
/-- what holds between two turns of the law's loop -/
inductive LaJ (ks : List Nat) (k : Nat) (ns : List Int) (vs : List V) (ρ : Loc) (σ' : SH) : Prop
  | mk (i : Nat) (rest : List Nat) (sp : List (Str × V)) (e : vs = pairRow i (rest.map .ref)) (hi : i + rest.length = 4) (hnd : rest.Nodup) (hr : ∀ j ∈ rest, RowAt σ' k j) (hk : σ'[k]? = some (.list (ks.map .ref))) (h0 : σ'[0]? = some (.list (ns.map .int)))
      (hsp : sp = [] ∨ ∃ a b, sp = [(("which" : Str), a), (("row" : Str), b)]) (hρ : ρ = laR sp)
theorem asg_pair {r : Rec} {x y : Str} {p q pos : Pos} {n : Nat} {u v : V} {ρ : Loc} {σ : SH} {K : Loc → SH → Prop} (h1 : isLoc ρ x = true) (h2 : isLoc (ρ.set x u) y = true) (hK : K ((ρ.set x u).set y v) σ) : asgW r (.Tuple [.Name x p, .Name y q] n pos) (.tup [u, v]) ρ σ K :=
  ck_of (c := [u, v].length = [Expr.Name x p, Expr.Name y q].length ∧ noStar [Expr.Name x p, Expr.Name y q] = true) ⟨rfl, rfl⟩ (ck_of h1 (ck_of h2 hK))
theorem law_tail {ns : List Int} (hn : ns.length ≤ 1000) {G : KS} (hG : ∀ ρ σ, G (.ret (.bool true)) ρ σ) : exs (ev tab 170) (b_law.1.drop 1) (laR []) [.list (ns.map .int)] G := by
  walk_at "sw"
  intro k ks σ1 A1 hk hlen hnd hin hnk
  have h0 : σ1[0]? = some (.list (ns.map .int)) := A1.2 0 _ rfl no_mem
  walk_at "sw"
  first | refine oP_of hk ?_ | rw [hk]
  walk_at "sw"
  refine ⟨⟨?_, rfl⟩, ?_⟩
  · show (pairRow 0 (ks.map V.ref)).length ≤ 1000
    rw [pairRow_len, List.length_map, hlen]; decide
  have hin : ∀ i ∈ ks, RowAt σ1 k i := fun i hi => by
    obtain ⟨h1, h2⟩ := hin i hi
    have h1 : 1 ≤ i := h1
    exact ⟨by omega, fun e => hnk (e ▸ hi), h2⟩
  have hk0 : k ≠ 0 := fun e => by
    subst e
    rw [hk] at h0
    have := SO.list.inj (Option.some.inj h0)
    cases ks with
    | nil => cases hlen
    | cons a l =>
      cases ns with
      | nil => cases this
      | cons b l' => exact nomatch (List.cons.inj this).1
  refine loop_ind (LaJ ks k ns) ?_ ?_ _ _ _ ?_
  · rintro ρ σ' ⟨i, rest, sp, e, hi, hnd', hr, hk', h0', hsp, rfl⟩
    refine ⟨hk', ?_⟩
    rcases hsp with rfl | ⟨a, b, rfl⟩
    · walk_at "sw"
      exact hG _ _
    · walk_at "sw"
      exact hG _ _
  · rintro v vrest ρ σ' G2 hG2 ⟨i, rest, sp, e, hi, hnd', hr, hk', h0', hsp, rfl⟩
    refine ⟨hk', ?_⟩
    cases rest with
    | nil => cases e
    | cons x rest =>
      obtain ⟨rfl, rfl⟩ : v = .tup [.int (i : Int), .ref x] ∧ vrest = pairRow (i + 1) (rest.map .ref) := List.cons.inj e
      rw [List.nodup_cons] at hnd'
      have hi4 : i < 4 := by have : i + (rest.length + 1) = 4 := hi; omega
      obtain ⟨j, hj⟩ : ∃ j : Int, j = (i : Int) := ⟨_, rfl⟩
      rw [← hj]
      obtain ⟨hx0, hxk, row, hrow, hrl⟩ := hr x List.mem_cons_self
      have hset : ((laR sp).set ("which" : Str) (.int j)).set ("row" : Str) (.ref x) = laR [(("which" : Str), V.int j), (("row" : Str), V.ref x)] := by rcases hsp with rfl | ⟨a, b, rfl⟩ <;> rfl
      refine asg_pair rfl rfl ?_
      rw [hset]
      clear hset hsp hG
      walk_at "sw"
      refine oP_of h0' (oP_of (ints_map _) ?_)
      refine ⟨⟨by omega, by omega, hn⟩, fun ns' => ?_⟩
      walk_at "sw"
      refine oP_of get_new (oP_of (ints_map _) ?_)
      walk_at "sw"
      have P := pen_new (σ := σ' ++ [SO.list (ns'.map .int)]) (x := x) (n := ns'.sum) (get_app hrow) hrl
      refine ⟨_, x, rfl, P, fun σ2 A2 => ?_⟩
      walk_at "sw"
      have kp : ∀ (y : Nat) o, σ'[y]? = some o → y ≠ x → σ2[y]? = some o := fun y o hy hyx => A2.2 _ _ (get_app (get_app hy)) (by
        simp only [List.mem_cons, List.not_mem_nil, or_false, not_or]
        refine ⟨fun e => ?_, hyx⟩
        have := (List.getElem?_eq_some_iff.mp hy).1
        rw [e, List.length_append] at this
        omega)
      refine hG2 _ _ ⟨i + 1, rest, _, rfl, by have : i + (rest.length + 1) = 4 := hi; omega, hnd'.2, fun y hy => ?_, kp k _ hk' (fun e => hxk e.symm), kp 0 _ h0' (fun e => hx0 e.symm), .inr ⟨_, _, rfl⟩, rfl⟩
      obtain ⟨y1, y2, rw', hy3, hy4⟩ := hr y (List.mem_cons_of_mem _ hy)
      exact ⟨y1, y2, rw', kp y _ hy3 (fun e => hnd'.1 (e ▸ hy)), hy4⟩
  · exact ⟨0, ks, [], rfl, by rw [hlen], hnd, hin, hk, h0, .inl rfl, rfl⟩
end

section
open PySem PySem.W PyProof.Rows

theorem fd_obj {a : Addr} {P : Params} {fd : FuncData} (h : fdOf a P = some fd) : ∃ o, (kf P).lookup a = some o ∧ o.data = .func fd := by
  unfold fdOf at h
  split at h
  · rename_i o ho
    refine ⟨o, ho, ?_⟩
    split at h
    · rename_i f hf
      cases h
      exact hf
    · cases h
  · cases h
section
variable {prog : Program} {w : World} {B : Heap} {mg mb : Str → Option Value}
theorem fnAt (KX : (kf w.params).In B) (G : Gr prog w B mg mb) {a : Addr} {fd : FuncData} {body : List Stmt} {m : Nat} {P : Sp} (hfd : fdOf a w.params = some fd)
    (hglo : fd.globals = mainGlobals) (hblt : fd.builtins = builtinsNs) (hclo : fd.closure = []) (hbody : fd.body = .stmts body) (hcd : codeIn (kf w.params) fd.code fd.qualname = true) (hok : defOk fd.scope (nsOf fd) = true)
    (hbind : ∀ xs : List Value, xs.length = (nsOf fd).length → bindArgs fd ⟨xs, []⟩ = pure ((nsOf fd).zip xs)) (TO : TabOk prog w B mg tab m) (hP : Does tab m fd body P) : FnOk prog w B (.ref a) (m + 1) P := by
  obtain ⟨o, ho, hd'⟩ := fd_obj hfd
  exact fn_ok G (KX _ _ ho) hd' hglo hblt hclo hbody (codeRec_of KX hcd) hok (fun xs hl _ hQ => by rw [hbind xs hl]; exact wpAny_pure hQ) TO hP
end
theorem by_cons {n : Nat} {p : List Value → Prop} (h : ∀ a xs, xs.length = n → p (a :: xs)) : ∀ xs, xs.length = n + 1 → p xs
  | a :: xs, e => h a xs (Nat.succ.inj e)
theorem by_len0 {p : List Value → Prop} (h : p []) (xs : List Value) (e : xs.length = 0) : p xs := List.length_eq_zero_iff.mp e ▸ h
theorem by_len1 {p : List Value → Prop} (h : ∀ a, p [a]) : ∀ xs, xs.length = 1 → p xs := by_cons fun a => by_len0 (h a)
theorem by_len2 {p : List Value → Prop} (h : ∀ a b, p [a, b]) : ∀ xs, xs.length = 2 → p xs := by_cons fun a => by_len1 (h a)
theorem by_len3 {p : List Value → Prop} (h : ∀ a b c, p [a, b, c]) : ∀ xs, xs.length = 3 → p xs := by_cons fun a => by_len2 (h a)
theorem by_len4 {p : List Value → Prop} (h : ∀ a b c d, p [a, b, c, d]) : ∀ xs, xs.length = 4 → p xs := by_cons fun a => by_len3 (h a)
theorem by_len5 {p : List Value → Prop} (h : ∀ a b c d e, p [a, b, c, d, e]) : ∀ xs, xs.length = 5 → p xs := by_cons fun a => by_len4 (h a)
theorem by_len6 {p : List Value → Prop} (h : ∀ a b c d e f, p [a, b, c, d, e, f]) : ∀ xs, xs.length = 6 → p xs := by_cons fun a => by_len5 (h a)
theorem by_len7 {p : List Value → Prop} (h : ∀ a b c d e f g, p [a, b, c, d, e, f, g]) : ∀ xs, xs.length = 7 → p xs := by_cons fun a => by_len6 (h a)

section
variable {prog : Program} {w : World} {B : Heap} {mg mb : Str → Option Value} (KX : (kf w.params).In B) (G : Gr prog w B mg mb)
include KX G
theorem k_is_icmp (TO : TabOk prog w B mg tab 12) : FnOk prog w B (.ref 155) 13 P_is_icmp :=
  fnAt KX G (fd_is_icmp.2 _) rfl rfl rfl rfl rfl (by decide +kernel) (by_len2 fun _ _ => rfl) TO d_is_icmp
theorem k_answer_kind (TO : TabOk prog w B mg tab 12) : FnOk prog w B (.ref 162) 13 P_answer_kind :=
  fnAt KX G (fd_answer_kind.2 _) rfl rfl rfl rfl rfl (by decide +kernel) (by_len2 fun _ _ => rfl) TO d_answer_kind
theorem k_invert (TO : TabOk prog w B mg tab 28) : FnOk prog w B (.ref 169) 29 P_invert :=
  fnAt KX G (fd_invert.2 _) rfl rfl rfl rfl rfl (by decide +kernel) (by_len1 fun _ => rfl) TO d_invert
theorem k_side_of (TO : TabOk prog w B mg tab 12) : FnOk prog w B (.ref 176) 13 P_side_of :=
  fnAt KX G (fd_side_of.2 _) rfl rfl rfl rfl rfl (by decide +kernel) (by_len2 fun _ _ => rfl) TO d_side_of
theorem k_drop_talk (TO : TabOk prog w B mg tab 28) : FnOk prog w B (.ref 181) 29 P_drop_talk :=
  fnAt KX G (fd_drop_talk.2 _) rfl rfl rfl rfl rfl (by decide +kernel) (by_len2 fun _ _ => rfl) TO d_drop_talk
theorem k_look_up (TO : TabOk prog w B mg tab 44) : FnOk prog w B (.ref 188) 45 P_look_up :=
  fnAt KX G (fd_look_up.2 _) rfl rfl rfl rfl rfl (by decide +kernel) (by_len4 fun _ _ _ _ => rfl) TO d_look_up
theorem k_address_of (TO : TabOk prog w B mg tab 12) : FnOk prog w B (.ref 195) 13 P_address_of :=
  fnAt KX G (fd_address_of.2 _) rfl rfl rfl rfl rfl (by decide +kernel) (by_len2 fun _ _ => rfl) TO d_address_of
theorem k_port_of (TO : TabOk prog w B mg tab 28) : FnOk prog w B (.ref 202) 29 P_port_of :=
  fnAt KX G (fd_port_of.2 _) rfl rfl rfl rfl rfl (by decide +kernel) (by_len2 fun _ _ => rfl) TO d_port_of
theorem k_with_address (TO : TabOk prog w B mg tab 12) : FnOk prog w B (.ref 209) 13 P_with_address :=
  fnAt KX G (fd_with_address.2 _) rfl rfl rfl rfl rfl (by decide +kernel) (by_len3 fun _ _ _ => rfl) TO d_with_address
theorem k_with_port (TO : TabOk prog w B mg tab 28) : FnOk prog w B (.ref 216) 29 P_with_port :=
  fnAt KX G (fd_with_port.2 _) rfl rfl rfl rfl rfl (by decide +kernel) (by_len3 fun _ _ _ => rfl) TO d_with_port
theorem k_has_port (TO : TabOk prog w B mg tab 28) : FnOk prog w B (.ref 223) 29 P_has_port :=
  fnAt KX G (fd_has_port.2 _) rfl rfl rfl rfl rfl (by decide +kernel) (by_len1 fun _ => rfl) TO d_has_port
theorem k_done_bit (TO : TabOk prog w B mg tab 12) : FnOk prog w B (.ref 230) 13 P_done_bit :=
  fnAt KX G (fd_done_bit.2 _) rfl rfl rfl rfl rfl (by decide +kernel) (by_len1 fun _ => rfl) TO d_done_bit
theorem k_span_of_request (TO : TabOk prog w B mg tab 12) : FnOk prog w B (.ref 237) 13 P_span_of_request :=
  fnAt KX G (fd_span_of_request.2 _) rfl rfl rfl rfl rfl (by decide +kernel) (by_len1 fun _ => rfl) TO d_span_of_request
theorem k_port_fits (TO : TabOk prog w B mg tab 44) : FnOk prog w B (.ref 244) 45 P_port_fits :=
  fnAt KX G (fd_port_fits.2 _) rfl rfl rfl rfl rfl (by decide +kernel) (by_len3 fun _ _ _ => rfl) TO d_port_fits
theorem k_in_range (TO : TabOk prog w B mg tab 60) : FnOk prog w B (.ref 251) 61 P_in_range :=
  fnAt KX G (fd_in_range.2 _) rfl rfl rfl rfl rfl (by decide +kernel) (by_len3 fun _ _ _ => rfl) TO d_in_range
theorem k_port_span (TO : TabOk prog w B mg tab 44) : FnOk prog w B (.ref 258) 45 P_port_span :=
  fnAt KX G (fd_port_span.2 _) rfl rfl rfl rfl rfl (by decide +kernel) (by_len3 fun _ _ _ => rfl) TO d_port_span
theorem k_is_used (TO : TabOk prog w B mg tab 60) : FnOk prog w B (.ref 265) 61 P_is_used :=
  fnAt KX G (fd_is_used.2 _) rfl rfl rfl rfl rfl (by decide +kernel) (by_len4 fun _ _ _ _ => rfl) TO d_is_used
theorem k_pick_address (TO : TabOk prog w B mg tab 28) : FnOk prog w B (.ref 272) 29 P_pick_address :=
  fnAt KX G (fd_pick_address.2 _) rfl rfl rfl rfl rfl (by decide +kernel) (by_len4 fun _ _ _ _ => rfl) TO d_pick_address
theorem k_keeps_port (TO : TabOk prog w B mg tab 76) : FnOk prog w B (.ref 279) 77 P_keeps_port :=
  fnAt KX G (fd_keeps_port.2 _) rfl rfl rfl rfl rfl (by decide +kernel) (by_len6 fun _ _ _ _ _ _ => rfl) TO d_keeps_port
theorem k_first_place (TO : TabOk prog w B mg tab 44) : FnOk prog w B (.ref 286) 45 P_first_place :=
  fnAt KX G (fd_first_place.2 _) rfl rfl rfl rfl rfl (by decide +kernel) (by_len5 fun _ _ _ _ _ => rfl) TO d_first_place
theorem k_free_port (TO : TabOk prog w B mg tab 92) : FnOk prog w B (.ref 293) 93 P_free_port :=
  fnAt KX G (fd_free_port.2 _) rfl rfl rfl rfl rfl (by decide +kernel) (by_len7 fun _ _ _ _ _ _ _ => rfl) TO d_free_port
theorem k_pick (TO : TabOk prog w B mg tab 110) : FnOk prog w B (.ref 300) 111 P_pick :=
  fnAt KX G (fd_pick.2 _) rfl rfl rfl rfl rfl (by decide +kernel) (by_len6 fun _ _ _ _ _ _ => rfl) TO d_pick
theorem k_setup (TO : TabOk prog w B mg tab 126) : FnOk prog w B (.ref 307) 127 P_setup :=
  fnAt KX G (fd_setup.2 _) rfl rfl rfl rfl rfl (by decide +kernel) (by_len5 fun _ _ _ _ _ => rfl) TO d_setup
theorem k_null_bind (TO : TabOk prog w B mg tab 142) : FnOk prog w B (.ref 314) 143 P_null_bind :=
  fnAt KX G (fd_null_bind.2 _) rfl rfl rfl rfl rfl (by decide +kernel) (by_len4 fun _ _ _ _ => rfl) TO d_null_bind
theorem k_law_draw (TO : TabOk prog w B mg tab 12) : FnOk prog w B (.ref 321) 13 P_draw :=
  fnAt KX G (fd_law_draw.2 _) rfl rfl rfl rfl rfl (by decide +kernel) (by_len2 fun _ _ => rfl) TO d_draw
theorem k_law_rows (TO : TabOk prog w B mg tab 12) : FnOk prog w B (.ref 328) 13 P_rows :=
  fnAt KX G (fd_law_rows.2 _) rfl rfl rfl rfl rfl (by decide +kernel) (by_len0 rfl) TO d_rows
theorem k_law_is_ping (TO : TabOk prog w B mg tab 12) : FnOk prog w B (.ref 335) 13 P_l_is_ping :=
  fnAt KX G (fd_law_is_ping.2 _) rfl rfl rfl rfl rfl (by decide +kernel) (by_len1 fun _ => rfl) TO d_l_is_ping
theorem k_law_answer (TO : TabOk prog w B mg tab 28) : FnOk prog w B (.ref 342) 29 P_l_answer :=
  fnAt KX G (fd_law_answer.2 _) rfl rfl rfl rfl rfl (by decide +kernel) (by_len1 fun _ => rfl) TO d_l_answer
theorem k_law_with (TO : TabOk prog w B mg tab 12) : FnOk prog w B (.ref 349) 13 P_l_with :=
  fnAt KX G (fd_law_with.2 _) rfl rfl rfl rfl rfl (by decide +kernel) (by_len3 fun _ _ _ => rfl) TO d_l_with
theorem k_law_places (TO : TabOk prog w B mg tab 28) : FnOk prog w B (.ref 356) 29 P_l_places :=
  fnAt KX G (fd_law_places.2 _) rfl rfl rfl rfl rfl (by decide +kernel) (by_len2 fun _ _ => rfl) TO d_l_places
theorem k_law_tuple (TO : TabOk prog w B mg tab 28) : FnOk prog w B (.ref 363) 29 P_l_tuple :=
  fnAt KX G (fd_law_tuple.2 _) rfl rfl rfl rfl rfl (by decide +kernel) (by_len1 fun _ => rfl) TO d_l_tuple
theorem k_law_request (TO : TabOk prog w B mg tab 44) : FnOk prog w B (.ref 370) 45 P_l_request :=
  fnAt KX G (fd_law_request.2 _) rfl rfl rfl rfl rfl (by decide +kernel) (by_len3 fun _ _ _ => rfl) TO d_l_request
theorem k_law_round (TO : TabOk prog w B mg tab 44) : FnOk prog w B (.ref 377) 45 P_l_round :=
  fnAt KX G (fd_law_round.2 _) rfl rfl rfl rfl rfl (by decide +kernel) (by_len5 fun _ _ _ _ _ => rfl) TO d_l_round
theorem k_law_waiting (TO : TabOk prog w B mg tab 60) : FnOk prog w B (.ref 382) 61 P_l_waiting :=
  fnAt KX G (fd_law_waiting.2 _) rfl rfl rfl rfl rfl (by decide +kernel) (by_len4 fun _ _ _ _ => rfl) TO d_l_waiting
theorem k_law_fill (TO : TabOk prog w B mg tab 60) : FnOk prog w B (.ref 389) 61 P_l_fill :=
  fnAt KX G (fd_law_fill.2 _) rfl rfl rfl rfl rfl (by decide +kernel) (by_len4 fun _ _ _ _ => rfl) TO d_l_fill
theorem k_law_chosen (TO : TabOk prog w B mg tab 44) : FnOk prog w B (.ref 396) 45 P_l_chosen :=
  fnAt KX G (fd_law_chosen.2 _) rfl rfl rfl rfl rfl (by decide +kernel) (by_len2 fun _ _ => rfl) TO d_l_chosen
theorem k_law_holds (TO : TabOk prog w B mg tab 160) : FnOk prog w B (.ref 401) 161 P_l_holds :=
  fnAt KX G (fd_law_holds.2 _) rfl rfl rfl rfl rfl (by decide +kernel) (by_len1 fun _ => rfl) TO d_l_holds
theorem k_talk_init (TO : TabOk prog w B mg tab 12) : FnOk prog w B (.ref 119) 13 P_Talk_init :=
  fnAt KX G (fd_talk_init.2 _) rfl rfl rfl rfl rfl (by decide +kernel) (by_len5 fun _ _ _ _ _ => rfl) TO d_Talk_init
theorem k_Talk (TO : TabOk prog w B mg tab 12) : FnOk prog w B (.ref 122) 14 P_Talk :=
  cls_ok KX (.inl rfl) (fI := 119) rfl rfl rfl (k_talk_init KX G TO) fun vs σ Q hP => by
    obtain ⟨n, o, r, rfl, hQ⟩ := hP
    refine ⟨σ.length, n, o, r, rfl, get_new, rfl, ?_⟩
    have e : (σ ++ [SO.inst 122 []]).set σ.length (.inst 122 (talkAs n (tv o) (tv r) 0 0)) = σ ++ [.inst 122 (talkAs n (tv o) (tv r) 0 0)] := set_mid
    first | refine oP_of e ?_ | rw [e]
    exact hQ
theorem k_book_init (TO : TabOk prog w B mg tab 12) : FnOk prog w B (.ref 141) 13 P_Book_init := by
  obtain ⟨o, ho, hd'⟩ := fd_obj (fd_book_init.2 w.params)
  refine fn_ok G (ns := nsOf fd_book_init.1) (body := b_book_init.1) (KX _ _ ho) hd' rfl rfl rfl rfl (codeRec_of KX rfl) (by decide +kernel) (fun {A s Q} xs hl hk hQ => ?_) TO ?_
  · revert hQ
    exact by_len4 (p := fun xs => Q ((nsOf fd_book_init.1).zip xs) s → wpAny (model prog w) A (bindArgs _ ⟨xs, []⟩) Q noE s) (fun a b c d hQ => BindsTo.of_defaults (T := 134) rfl (hk _ _ (KX 134 _ rfl)) rfl rfl rfl _ _ _ _ hQ) xs hl
  · rintro vs σ K ⟨σ0, tr, rfl, rfl, hK⟩
    exact ⟨rfl, d_Book_init_walk hK⟩
theorem k_Book (TO : TabOk prog w B mg tab 12) : FnOk prog w B (.ref 144) 14 P_Book :=
  cls_ok KX (.inr rfl) (fI := 141) rfl rfl rfl (k_book_init KX G TO) fun vs σ Q hP => by
    obtain ⟨tr, rfl, hQ⟩ := hP
    exact ⟨σ, tr, rfl, rfl, rfl, hQ⟩
end
end

section
open PySem PySem.W PyProof.Rows

noncomputable def esOf (K : Frag) (a : Addr) : Array DictEntry := match K.lookup a with
  | some o => match o.data with
    | .dict es _ => es
    | _ => #[]
  | none => #[]
noncomputable def keyStr : Value → Bool
  | .str _ _ => true
  | _ => false
noncomputable def isNsK (K : Frag) (a : Addr) : Bool := match K.lookup a with
  | some o => match o.data with
    | .dict es _ => es.toList.all fun e => keyStr e.key
    | _ => false
  | none => false
theorem ns_of {K : Frag} {h : Heap} {a : Addr} (X : K.In h) (e : isNsK K a = true) : h.Ns a (nsFind (esOf K a)) := by
  unfold isNsK at e
  unfold esOf
  cases ho : K.lookup a with
  | none => rw [ho] at e; cases e
  | some o =>
    rw [ho] at e
    dsimp only at e ⊢
    cases hd' : o.data with
    | dict es ep =>
      rw [hd'] at e
      dsimp only at e ⊢
      refine ⟨o, es, ep, X _ _ ho, hd', fun x hx => ?_, fun _ => rfl⟩
      have := List.all_eq_true.mp e x (Array.mem_toList_iff.mpr hx)
      cases hk : x.key with
      | str n t => exact ⟨n, t, rfl⟩
      | _ => rw [hk] at this; cases this
    | _ => rw [hd'] at e; cases e

noncomputable def mgK (P : Params) : Str → Option Value := nsFind (esOf (kf P) 3)
theorem g_ns {P : Params} {h : Heap} (X : (kf P).In h) : h.Ns mainGlobals (mgK P) := ns_of X rfl
theorem free_K (P : Params) : ∀ f ∈ (["len", "min", "max", "sum", "sorted", "list", "range", "enumerate"] : List Str), mgK P f = none := by
  intro f hf
  simp only [List.mem_cons, List.not_mem_nil, or_false] at hf
  rcases hf with rfl | rfl | rfl | rfl | rfl | rfl | rfl | rfl <;> rfl
theorem names_none {m : Str → Option Value} (h : (clsNames.all fun x => (m x).isNone) = true) (x : Str) (hx : clsNames.contains x = true) : m x = none :=
  Option.isNone_iff_eq_none.mp (List.all_eq_true.mp h x (List.contains_iff_mem.mp hx))
theorem talk_K {P : Params} {h : Heap} (X : (kf P).In h) : ClsOk h 122 := by
  refine ⟨X 122 _ rfl, ns_of X rfl, rfl, rfl, names_none rfl⟩
theorem book_K {P : Params} {h : Heap} (X : (kf P).In h) : ClsOk h 144 := by
  refine ⟨X 144 _ rfl, ns_of X rfl, rfl, rfl, names_none rfl⟩
theorem gr_K {prog : Program} {w : World} {B : Heap} {mb : Str → Option Value} (X : (kf w.params).In B) (hb : B.Ns builtinsNs mb) (hl : B.NoLimit) (hs : B.NoSeer) (hbt : ∀ x : Str, x ≠ "__name__" → mb x = bootBuiltins x) : Gr prog w B (mgK w.params) mb where
  g := g_ns X
  b := hb
  nolim := hl
  mods := by
    obtain ⟨mm, ⟨o, es, ep, ho, _⟩, _⟩ := hs.mods
    rw [ho]; rfl
  talk := talk_K X
  book := book_K X
  free := fun f hf => ⟨free_K _ f hf, hbt f (by
    simp only [List.mem_cons, List.not_mem_nil, or_false] at hf
    rcases hf with rfl | rfl | rfl | rfl | rfl | rfl | rfl | rfl <;> decide)⟩

theorem mg_is_icmp (P : Params) : mgK P ("is_icmp" : Str) = some (.ref 155) := by kernel_rfl
theorem mg_answer_kind (P : Params) : mgK P ("answer_kind" : Str) = some (.ref 162) := by kernel_rfl
theorem mg_invert (P : Params) : mgK P ("invert" : Str) = some (.ref 169) := by kernel_rfl
theorem mg_side_of (P : Params) : mgK P ("side_of" : Str) = some (.ref 176) := by kernel_rfl
theorem mg_drop_talk (P : Params) : mgK P ("drop_talk" : Str) = some (.ref 181) := by kernel_rfl
theorem mg_look_up (P : Params) : mgK P ("look_up" : Str) = some (.ref 188) := by kernel_rfl
theorem mg_address_of (P : Params) : mgK P ("address_of" : Str) = some (.ref 195) := by kernel_rfl
theorem mg_port_of (P : Params) : mgK P ("port_of" : Str) = some (.ref 202) := by kernel_rfl
theorem mg_with_address (P : Params) : mgK P ("with_address" : Str) = some (.ref 209) := by kernel_rfl
theorem mg_with_port (P : Params) : mgK P ("with_port" : Str) = some (.ref 216) := by kernel_rfl
theorem mg_has_port (P : Params) : mgK P ("has_port" : Str) = some (.ref 223) := by kernel_rfl
theorem mg_done_bit (P : Params) : mgK P ("done_bit" : Str) = some (.ref 230) := by kernel_rfl
theorem mg_span_of_request (P : Params) : mgK P ("span_of_request" : Str) = some (.ref 237) := by kernel_rfl
theorem mg_port_fits (P : Params) : mgK P ("port_fits" : Str) = some (.ref 244) := by kernel_rfl
theorem mg_in_range (P : Params) : mgK P ("in_range" : Str) = some (.ref 251) := by kernel_rfl
theorem mg_port_span (P : Params) : mgK P ("port_span" : Str) = some (.ref 258) := by kernel_rfl
theorem mg_is_used (P : Params) : mgK P ("is_used" : Str) = some (.ref 265) := by kernel_rfl
theorem mg_pick_address (P : Params) : mgK P ("pick_address" : Str) = some (.ref 272) := by kernel_rfl
theorem mg_keeps_port (P : Params) : mgK P ("keeps_port" : Str) = some (.ref 279) := by kernel_rfl
theorem mg_first_place (P : Params) : mgK P ("first_place" : Str) = some (.ref 286) := by kernel_rfl
theorem mg_free_port (P : Params) : mgK P ("free_port" : Str) = some (.ref 293) := by kernel_rfl
theorem mg_pick (P : Params) : mgK P ("pick" : Str) = some (.ref 300) := by kernel_rfl
theorem mg_setup (P : Params) : mgK P ("setup" : Str) = some (.ref 307) := by kernel_rfl
theorem mg_null_bind (P : Params) : mgK P ("null_bind" : Str) = some (.ref 314) := by kernel_rfl
theorem mg_Talk (P : Params) : mgK P ("Talk" : Str) = some (.ref 122) := by kernel_rfl
theorem mg_Book (P : Params) : mgK P ("TalkBook" : Str) = some (.ref 144) := by kernel_rfl
theorem mg_law_draw (P : Params) : mgK P ("_law_draw" : Str) = some (.ref 321) := by kernel_rfl
theorem mg_law_rows (P : Params) : mgK P ("_law_rows" : Str) = some (.ref 328) := by kernel_rfl
theorem mg_law_is_ping (P : Params) : mgK P ("_law_is_ping" : Str) = some (.ref 335) := by kernel_rfl
theorem mg_law_answer (P : Params) : mgK P ("_law_answer" : Str) = some (.ref 342) := by kernel_rfl
theorem mg_law_with (P : Params) : mgK P ("_law_with" : Str) = some (.ref 349) := by kernel_rfl
theorem mg_law_places (P : Params) : mgK P ("_law_places" : Str) = some (.ref 356) := by kernel_rfl
theorem mg_law_tuple (P : Params) : mgK P ("_law_tuple" : Str) = some (.ref 363) := by kernel_rfl
theorem mg_law_request (P : Params) : mgK P ("_law_request" : Str) = some (.ref 370) := by kernel_rfl
theorem mg_law_round (P : Params) : mgK P ("_law_round" : Str) = some (.ref 377) := by kernel_rfl
theorem mg_law_waiting (P : Params) : mgK P ("_law_waiting" : Str) = some (.ref 382) := by kernel_rfl
theorem mg_law_fill (P : Params) : mgK P ("_law_fill" : Str) = some (.ref 389) := by kernel_rfl
theorem mg_law_chosen (P : Params) : mgK P ("_law_chosen" : Str) = some (.ref 396) := by kernel_rfl
theorem mg_law_holds (P : Params) : mgK P ("_law_holds" : Str) = some (.ref 401) := by kernel_rfl
section
variable {prog : Program} {w : World} {B : Heap} {mb : Str → Option Value}
noncomputable def RowK (prog : Program) (w : World) (B : Heap) (e : Str × Nat × Sp) : Prop := TabOk prog w B (mgK w.params) tab (e.2.1 - 1) → (e.1 == ("__debug__" : Str)) = false ∧ ∃ v, mgK w.params e.1 = some v ∧ FnOk prog w B v e.2.1 e.2.2
theorem row_of {f : Str} {v : Value} {m : Nat} {P : Sp} (hf : (f == ("__debug__" : Str)) = false) (hv : mgK w.params f = some v) (hF : TabOk prog w B (mgK w.params) tab (m - 1) → FnOk prog w B v m P) : RowK prog w B (f, m, P) := fun H => ⟨hf, v, hv, hF H⟩
theorem row_cons {e : Str × Nat × Sp} {l : List (Str × Nat × Sp)} (h : RowK prog w B e) (t : ∀ x ∈ l, RowK prog w B x) : ∀ x ∈ e :: l, RowK prog w B x := fun _ he => (List.mem_cons.mp he).elim (fun q => q ▸ h) (t _)
theorem row_K (KX : (kf w.params).In B) (G : Gr prog w B (mgK w.params) mb) : ∀ e ∈ tabL, RowK prog w B e := by
  refine row_cons (row_of (by decide) (mg_is_icmp _) fun H => k_is_icmp KX G (H.mono (by decide))) ?_
  refine row_cons (row_of (by decide) (mg_answer_kind _) fun H => k_answer_kind KX G (H.mono (by decide))) ?_
  refine row_cons (row_of (by decide) (mg_invert _) fun H => k_invert KX G (H.mono (by decide))) ?_
  refine row_cons (row_of (by decide) (mg_side_of _) fun H => k_side_of KX G (H.mono (by decide))) ?_
  refine row_cons (row_of (by decide) (mg_drop_talk _) fun H => k_drop_talk KX G (H.mono (by decide))) ?_
  refine row_cons (row_of (by decide) (mg_look_up _) fun H => k_look_up KX G (H.mono (by decide))) ?_
  refine row_cons (row_of (by decide) (mg_address_of _) fun H => k_address_of KX G (H.mono (by decide))) ?_
  refine row_cons (row_of (by decide) (mg_port_of _) fun H => k_port_of KX G (H.mono (by decide))) ?_
  refine row_cons (row_of (by decide) (mg_with_address _) fun H => k_with_address KX G (H.mono (by decide))) ?_
  refine row_cons (row_of (by decide) (mg_with_port _) fun H => k_with_port KX G (H.mono (by decide))) ?_
  refine row_cons (row_of (by decide) (mg_has_port _) fun H => k_has_port KX G (H.mono (by decide))) ?_
  refine row_cons (row_of (by decide) (mg_done_bit _) fun H => k_done_bit KX G (H.mono (by decide))) ?_
  refine row_cons (row_of (by decide) (mg_span_of_request _) fun H => k_span_of_request KX G (H.mono (by decide))) ?_
  refine row_cons (row_of (by decide) (mg_port_fits _) fun H => k_port_fits KX G (H.mono (by decide))) ?_
  refine row_cons (row_of (by decide) (mg_in_range _) fun H => k_in_range KX G (H.mono (by decide))) ?_
  refine row_cons (row_of (by decide) (mg_port_span _) fun H => k_port_span KX G (H.mono (by decide))) ?_
  refine row_cons (row_of (by decide) (mg_is_used _) fun H => k_is_used KX G (H.mono (by decide))) ?_
  refine row_cons (row_of (by decide) (mg_pick_address _) fun H => k_pick_address KX G (H.mono (by decide))) ?_
  refine row_cons (row_of (by decide) (mg_keeps_port _) fun H => k_keeps_port KX G (H.mono (by decide))) ?_
  refine row_cons (row_of (by decide) (mg_first_place _) fun H => k_first_place KX G (H.mono (by decide))) ?_
  refine row_cons (row_of (by decide) (mg_free_port _) fun H => k_free_port KX G (H.mono (by decide))) ?_
  refine row_cons (row_of (by decide) (mg_pick _) fun H => k_pick KX G (H.mono (by decide))) ?_
  refine row_cons (row_of (by decide) (mg_setup _) fun H => k_setup KX G (H.mono (by decide))) ?_
  refine row_cons (row_of (by decide) (mg_null_bind _) fun H => k_null_bind KX G (H.mono (by decide))) ?_
  refine row_cons (row_of (by decide) (mg_Talk _) fun H => k_Talk KX G (H.mono (by decide))) ?_
  refine row_cons (row_of (by decide) (mg_Book _) fun H => k_Book KX G (H.mono (by decide))) ?_
  refine row_cons (row_of (by decide) (mg_law_draw _) fun H => k_law_draw KX G (H.mono (by decide))) ?_
  refine row_cons (row_of (by decide) (mg_law_rows _) fun H => k_law_rows KX G (H.mono (by decide))) ?_
  refine row_cons (row_of (by decide) (mg_law_is_ping _) fun H => k_law_is_ping KX G (H.mono (by decide))) ?_
  refine row_cons (row_of (by decide) (mg_law_answer _) fun H => k_law_answer KX G (H.mono (by decide))) ?_
  refine row_cons (row_of (by decide) (mg_law_with _) fun H => k_law_with KX G (H.mono (by decide))) ?_
  refine row_cons (row_of (by decide) (mg_law_places _) fun H => k_law_places KX G (H.mono (by decide))) ?_
  refine row_cons (row_of (by decide) (mg_law_tuple _) fun H => k_law_tuple KX G (H.mono (by decide))) ?_
  refine row_cons (row_of (by decide) (mg_law_request _) fun H => k_law_request KX G (H.mono (by decide))) ?_
  refine row_cons (row_of (by decide) (mg_law_round _) fun H => k_law_round KX G (H.mono (by decide))) ?_
  refine row_cons (row_of (by decide) (mg_law_waiting _) fun H => k_law_waiting KX G (H.mono (by decide))) ?_
  refine row_cons (row_of (by decide) (mg_law_fill _) fun H => k_law_fill KX G (H.mono (by decide))) ?_
  refine row_cons (row_of (by decide) (mg_law_chosen _) fun H => k_law_chosen KX G (H.mono (by decide))) ?_
  refine row_cons (row_of (by decide) (mg_law_holds _) fun H => k_law_holds KX G (H.mono (by decide))) ?_
  exact fun _ h => nomatch h
theorem const_K {P : Params} {x : Str} {i : Int} (h : tab.const x = some i) : (x == ("__debug__" : Str)) = false ∧ ∃ t, mgK P x = some (.int i t) := by
  have h : (if x = ("DYING" : Str) then some (512 : Int) else none) = some i := h
  split at h
  · rename_i e
    subst e
    cases h
    exact ⟨rfl, _, rfl⟩
  · cases h
theorem look_mem {α : Type} {x : Str} {y : α} : ∀ {l : List (Str × α)}, l.lookup x = some y → (x, y) ∈ l
  | (k, v) :: r, h => by
    unfold List.lookup at h
    split at h
    · rename_i e
      cases h
      obtain rfl : x = k := by simpa using e
      exact List.mem_cons_self
    · exact List.mem_cons_of_mem _ (look_mem h)
theorem tab_K (KX : (kf w.params).In B) (G : Gr prog w B (mgK w.params) mb) : ∀ n, TabOk prog w B (mgK w.params) tab n := by
  intro n
  induction n using Nat.strongRecOn with
  | ind n ih =>
    refine ⟨fun {f m P} e hm => ?_, fun {x i} e => const_K e⟩
    have he : (f, m, P) ∈ tabL := look_mem e
    by_cases h0 : m = 0
    · subst h0
      exact absurd (List.all_eq_true.mp (show (tabL.all fun e => Nat.ble 1 e.2.1) = true from rfl) _ he) (show ¬ Nat.ble 1 0 = true from by decide)
    · exact row_K KX G _ he (ih (m - 1) (by omega))
end
end

section
open PySem PySem.W PySem.Calls PyProof.Rows

theorem asg1_name {r : Rec} {x : Str} {p : Pos} {v : V} {ρ : Loc} {σ : SH} {K : Loc → SH → Prop} (h : isLoc ρ x = true) (hK : K (ρ.set x v) σ) : asg1 r (.Name x p) v ρ σ K := ck_of h hK
section
variable {prog : Program} {w : World} {B : Heap} {mg mb : Str → Option Value} {A : Around} {s : Shared} {env : Env} {m : Str → Option Value}
theorem law_first (G : Gr prog w B mg mb) (TO : TabOk prog w B mg tab 170) (hR : Room 170 A) (S : St prog w B [] [] s.heap) (F : Fm B env ⟨fd_law.1.scope, []⟩ [] s.heap) {a : Addr} {vs : List Value} {ns : List Int} (hns : s.heap.Ns env.locals m)
    (hm : m ("script" : Str) = some (.ref a)) (hl : s.heap.IsList a vs.toArray) (hI : IntsAre vs ns) (hn : ns.length ≤ 63) :
    wpAny (model prog w) A (execs b_law.1 env) (Post prog w B (stR B env) (wsOf env) [] s (un fun f _ _ => f = .ret (.bool true))) noE s := by
  have R := ev_snd G 170 TO
  refine wpAny_execs_cons (rest := b_law.1.drop 1) ?_
  have hsz : vs.toArray.size ≤ 63 := by rw [List.size_toArray, ints_len hI]; exact hn
  refine wpAny_Assign_stores (wp_then (K := fun v σ => v = .ref 0 ∧ ∃ ns' : List Int, σ = [.list (ns'.map .int)] ∧ ns'.length ≤ 1000) (R := Rv) (ws := []) (μ := []) (B := B) ?_ fun v y σ1 μ1 s1 hK S1 X1 r1 Y1 => ?_) (swapsWith_snd (.inl rfl)) (swapQ_snd F rfl)
  · refine wpAny_Subscript_list_slice (wpAny_Name (wpAny_loadName_local F.kind (by rw [F.kindOf]; rfl) hns hm ?_) rfl) (by intro _ _; rfl)
    refine evalPart_none_step (evalPart_some_step (wpAny_Constant_int ?_))
    refine ⟨a, vs.toArray, none, some 63, rfl, hl, by rw [sizeLine_eq]; omega, .none, .int _ _, ?_⟩
    have hp := hI.pick none (some 63) none
    have hpl : (pickNums ns none (some 63) none).length ≤ 1000 := by
      rw [← ints_len hp, Array.length_toList]
      have := slicePick_size_le vs.toArray none (some 63) none
      omega
    refine post_list (s := s) (m := 0) S _ (fun b o e => Heap.get?_push_of_some _ (Heap.get?_push_of_some _ e)) ?_ ?_ (ints_rvs hp) ⟨rfl, _, rfl, hpl⟩
    · exact Heap.get?_none_of_le (Nat.le_succ _)
    · have := Heap.get?_push_size (s.heap.push { cls := .type "slice", data := .fields #[.none, .int 63 s.toks, .none] }) (o := { cls := .type "list", data := .seq (slicePick vs.toArray none (some 63) none) }) rfl
      rw [Heap.size_push] at this
      exact this
  · obtain ⟨rfl, ns', rfl, hl'⟩ := hK
    show wpAny _ _ (assign _ env y) _ _ _
    have t : exs (ev tab 170) (b_law.1.drop 1) (laR []) [SO.list (ns'.map .int)] (fun f _ _ => f = .ret (.bool true)) := law_tail hl' (fun _ _ => rfl)
    refine wpAny_mono (asg1_snd (ρ := ⟨fd_law.1.scope, []⟩) (v := .ref 0) (σ := [SO.list (ns'.map .int)]) (K := fun ρ σ => exs (ev tab 170) (b_law.1.drop 1) ρ σ fun f _ _ => f = .ret (.bool true)) G R hR (asg1_name rfl t) S1 (F.ext X1) r1) (fun _ s2 P => ?_) fun _ _ e => e
    obtain ⟨ρ2, σ2, μ2, hK2, S2, X2, F2, Y2⟩ := P
    exact wp_back (X1.nil.trans X2) (Y1.trans Y2) (exs_snd R hR hK2 S2 F2)
end
end

section
open PySem PySem.W PySem.Calls PyProof.Rows

theorem law_names : ∀ p ∈ fd_law.1.scope.names, p.2 ≠ NameKind.cell := by decide
theorem law_end {prog : Program} {w : World} {s₁ : Shared} {mg mb : Str → Option Value} {mean : ExcName → Option Value} {loose : List Str} {h₁ : Heap} {fa a : Addr} {cd : Value} {tk : Nat} {vs : List Value} {ns : List Int} {m : Str → Option Value} {name : Str} {c : ClaimW} {cl : Str → Option Addr} {mn : ExcName → Option Value} {args : List WData} {E : Value → Shared → Prop}
    (KX : (kf w.params).In s₁.heap) (T : Top qv loose mean mg mb s₁.heap) (hg : s₁.gens = #[]) (F : Fr s₁.heap s₁.heap.objs.size h₁ m) (hm : m ("script" : Str) = some (.ref a))
    (hL : s₁.heap.IsList a vs.toArray) (hI : IntsAre vs ns) (hlen : ns.length ≤ 63) (hn : ∀ cls, c.raises args cls = false) (hp : c.post args (.bool true) args = true) :
    wpAny (model prog w) (callerA.deeper (envOf name fd_law.1.scope s₁.heap.objs.size fa cd)) (execs b_law.1 (envOf name fd_law.1.scope s₁.heap.objs.size fa cd))
      (fun f s' => GoodW c cl mn args s₁ (.ok (.ret (match f with | .ret v => v | _ => .none))) s') E ⟨h₁, s₁.gens, s₁.drawn, tk, s₁.os⟩ := by
  have G : Gr prog w s₁.heap (mgK w.params) mb := gr_K KX T.b T.nolimit (T.seer rfl) T.builtins
  have TO := tab_K (prog := prog) KX G 170
  have fresh : s₁.heap.get? s₁.heap.objs.size = none := Heap.get?_none_of_le (Nat.le_refl _)
  have S0 : St prog w s₁.heap [] [] h₁ := ⟨F.keep, (fun k o e => by cases e), rfl, List.nodup_nil, (fun b hb => nomatch hb), (fun b hb => nomatch hb)⟩
  have F0 : Fm s₁.heap (envOf name fd_law.1.scope s₁.heap.objs.size fa cd) ⟨fd_law.1.scope, []⟩ [] h₁ := by
    refine ⟨rfl, rfl, rfl, rfl, ⟨m, F.ns, (fun x v hx => by cases hx)⟩, (fun x hx => ?_), (fun x c hc => by cases hc), (fun x v hx => by cases hx), (fun hb => nomatch hb), (fun x c hc => by cases hc), (fun x y c hx => by cases hx), fresh, (fun x c hc => by cases hc), (fun p hp => nomatch hp)⟩
    exact absurd rfl (law_names _ (mem_lookup hx))
  have hR : Room 170 (callerA.deeper (envOf name fd_law.1.scope s₁.heap.objs.size fa cd)) := ⟨rfl, by show callerA.depth + 1 + 170 < recursionLimit; decide +kernel, by show callerA.units + 3 + 8 * 170 + 100 < cLine; decide +kernel⟩
  refine wpAny_mono (law_first (s := ⟨h₁, s₁.gens, s₁.drawn, tk, s₁.os⟩) G TO hR S0 F0 F.ns hm ?_ hI hlen) (fun f s' P => ?_) fun _ _ e => e.elim
  · obtain ⟨o, ho, r⟩ := hL
    exact ⟨o, F.keep _ _ ho, r⟩
  · obtain ⟨⟨fl, ρ1⟩, σ1, μ1, hK, S1, X1, ⟨hf, F1⟩, Y1⟩ := P
    obtain rfl : fl = .ret (.bool true) := hK
    obtain ⟨x, rfl, rx⟩ := hf
    unfold Rv at rx
    subst rx
    obtain ⟨m2, hns2, _⟩ := F1.ns
    have F2 : Fr s₁.heap s₁.heap.objs.size s'.heap m2 := ⟨hns2, (fun b o e => X1.keep b o (F.keep b o e) (fun hb => nomatch hb) fun hb => by
      have hb : b = s₁.heap.objs.size := List.mem_singleton.mp hb
      rw [hb, fresh] at e; cases e), Nat.le_refl _⟩
    exact goodW_bool F2 (Y1.gens.trans hg) hn hp Y1.os
end

end Sw
open PySem PySem.W PyProof.Rows
set_option maxRecDepth 100000 in
set_option maxHeartbeats 8000000 in
theorem PySem.Challenge.cw_pq1086_01_holds : PySem.Challenge.rw_pq1086_01.Holds := by
  refine holds_law Sw.said_ fun said => ?_
  refine holds_open (q := Sw.qv) (loose := Sw.looseT) (Xt := Sw.xtT) (XP := XL Sw.qv []) (Yf := Hook.obs (kHook Sw.kf Sw.kfA fun _ => rfl)) (Ya := Hook.val (kHook Sw.kf Sw.kfA fun _ => rfl)) (YP := Hook.says (kHook Sw.kf Sw.kfA fun _ => rfl)) (N := 3100) Sw.left_ (Hook.of _) (Hook.keeps _) (fun s e => xl_of s (Bool.and_eq_true_iff.mp e).1) XL.keeps (by rfl) (by rfl) (by rfl) (fun s e => recFacts_of (Bool.and_eq_true_iff.mp e).2) (by rfl) (by assumption) Sw.ok_ Sw.bare_ ?hw ?hc
  case hw => w_witness2
  case hc =>
    intro w s₀ s₁ mg mb G Y fa o pm cd doc dV kV ho hd hcd hD hmg hg args vals as hpre hlay hrd hwl hlo
    have KX := kIn_of Y
    refine Ground.open G ?_
    intro T B D TE TW
    clear D
    have TA := at_of_top T
    obtain ⟨_, _, he, B0⟩ := based_of_top T rfl hmg ho hd
    have he' : cd = _ := he
    subst he'
    clear he hmg
    wrow_args hpre hlay hrd hwl hlo
    refine enter_call ?_
    w_top on
    refine codeAny_mono ?_ (fun _ _ g => GoodW.toG g)
    have K0 := below_caller (Top.heap T)
    w_call any ho hd hcd hD T F
    clear hd TA
    refine Sw.law_end ‹_› ‹_› ‹_› ‹_› rfl ‹_› ‹_› (by omega) (fun _ => rfl) ?_
    kc_post
