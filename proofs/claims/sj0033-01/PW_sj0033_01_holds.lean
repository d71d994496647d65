import PyProof.Rows.All
import Wide.All
import OpenK.AllK
import Wide.FinOn
import KE.KAnyBase
import PyProof.Rows.TupTab
import PyProof.ListIndexNeg
import PyProof.Rows.SortStr
import PyProof.ExcClass2
import PyProof.InstStoreFacts
import PyProof.ExcArgs
import KE.LcTurns
import PyProof.WalksPairs
import KE.KPairComp
import PyProof.WalksMore
import KE.KPop
import KE.KItem
import PyProof.ExcBaseAll.Exception
import KE.KxSplit
import PyProof.SliceMore
import PyProof.Rows.SumAny
import KE.KTryDeep
import Lean
import PySem.Challenge.RW_sj0033_01
set_option Elab.async false
set_option maxRecDepth 100000
set_option maxHeartbeats 0
set_option linter.unusedVariables false
set_option genSizeOf false
set_option genInjectivity false
open PySem.Challenge (pw_sj0033_01)
section
open PySem
set_option backward.match.sparseCases false
namespace Mine
noncomputable abbrev N := List Nat
inductive V where
  | none
  | bool (b : Bool)
  | int (i : Int)
  | str (s : N)
  | tup (l : List V)
  | vls (l : List V)
  | lst (i : Nat)
  | obj (C : N) (i : Nat)
  | ins (C : N) (ks : List N) (vs : List V)
  | feed
  | dct (l : List (N × N × N))
  | sdct (ks : List N) (vs : List V)
  | rng (lo hi : Int)
  deriving Inhabited
inductive AObj where
  | list (l : List V)
  | inst (ks : List N) (vs : List V)
  | row (pre rest : List V) (pt : V)
  deriving Inhabited
noncomputable abbrev Hp := List AObj
noncomputable def leq : N -> N -> Bool
  | [], [] => true
  | a :: as, b :: bs => match Nat.beq a b with
    | true => leq as bs
    | false => false
  | [], _ :: _ => false
  | _ :: _, [] => false
set_option tactic.hygienic false
theorem leq_e {a : N} : ∀ {b : N}, leq a b = true -> a = b := by
  induction a with
  | nil =>
    intro b h
    cases b with
    | nil => rfl
    | cons _ _ => cases h
  | cons x a ih =>
    intro b h
    cases b with
    | nil => cases h
    | cons y b =>
      revert h
      show (match Nat.beq x y with
        | true => leq a b
        | false => false) = true -> _
      cases q : Nat.beq x y with
      | true => exact fun h => by rw [Nat.eq_of_beq_eq_true q, ih h]
      | false => exact fun h => nomatch h
theorem leq_refl (a : N) : leq a a = true := by
  induction a with
  | nil => rfl
  | cons x a ih =>
    show (match Nat.beq x x with
      | true => leq a a
      | false => false) = true
    rw [Nat.beq_refl]; exact ih
structure Env where
  fn : N
  sc : List (Str × NameKind)
  ks : List N
  vs : List V
noncomputable def look : List N -> List V -> N -> Option V
  | k :: ks, v :: vs, x => match leq k x with
    | true => some v
    | false => look ks vs x
  | _, _, _ => Option.none
noncomputable def putV : List N -> List V -> N -> V -> List V
  | k :: ks, v :: vs, x, y => match leq k x with
    | true => y :: vs
    | false => v :: putV ks vs x y
  | _, _, _, y => [y]
noncomputable def putK : List N -> N -> List N
  | k :: ks, x => match leq k x with
    | true => k :: ks
    | false => k :: putK ks x
  | [], x => [x]
noncomputable def Env.put (ρ : Env) (x : N) (v : V) : Env := ⟨ρ.fn, ρ.sc, putK ρ.ks x, putV ρ.ks ρ.vs x v⟩
structure Fn where
  nm : N
  sc : List (Str × NameKind)
  params : List N
  dflt : List V
  body : List Stmt
structure Tab where
  fns : List (N × Fn)
  cls : List (N × List (N × Fn))
  simple : List (N × List N)
  muts : List (N × List N)
  orcs : List (N × (List V -> (V -> Prop) -> Prop))
noncomputable def find {α : Type} : List (N × α) -> N -> Option α
  | [], _ => Option.none
  | (k, a) :: r, x => match leq k x with
    | true => some a
    | false => find r x
noncomputable def memN : List N -> N -> Bool
  | [], _ => false
  | k :: r, x => match leq k x with
    | true => true
    | false => memN r x
noncomputable def okS : N -> Bool
  | [] => true
  | c :: r => match Nat.blt c 1114112 with
    | true => okS r
    | false => false
theorem nS {α : Type} {x : α} {P : Prop} (h : none = some x) : P := by cases h
theorem tF {P : Prop} (h : false = true) : P := by cases h
noncomputable def cV : Const -> Option V
  | .none => some .none
  | .bool b => some (.bool b)
  | .int i => some (.int i)
  | .str s => match okS s.cps.toList with
    | true => some (.str s.cps.toList)
    | false => Option.none
  | _ => Option.none
set_option tactic.hygienic true
theorem cV_e {c : Const} {v : V} (h : cV c = some v) : (c = .none /\ v = .none) \/ (∃ b, c = .bool b /\ v = .bool b) \/ (∃ i, c = .int i /\ v = .int i) \/ ∃ s, c = .str s /\ v = .str s.cps.toList /\ okS s.cps.toList = true := by
  cases c
  case none => exact .inl ⟨rfl, (Option.some.inj h).symm⟩
  case bool b => exact .inr (.inl ⟨b, rfl, (Option.some.inj h).symm⟩)
  case int i => exact .inr (.inr (.inl ⟨i, rfl, (Option.some.inj h).symm⟩))
  case str s =>
    revert h
    show (match okS s.cps.toList with
      | true => some (V.str s.cps.toList)
      | false => Option.none) = _ -> _
    cases q : okS s.cps.toList with
    | false => exact nS
    | true => exact fun h => .inr (.inr (.inr ⟨s, rfl, (Option.some.inj h).symm, q⟩))
  all_goals exact nS h
noncomputable def lstO : AObj -> Option (List V)
  | .list l => some l
  | _ => Option.none
noncomputable def lstAt (σ : Hp) (i : Nat) : Option (List V) := match σ[i]? with
  | some o => lstO o
  | Option.none => Option.none
noncomputable def items (σ : Hp) : V -> Option (List V)
  | .vls l => some l
  | .lst i => lstAt σ i
  | _ => Option.none
theorem lstAt_e {σ : Hp} {i : Nat} {l : List V} (h : lstAt σ i = some l) : σ[i]? = some (.list l) := by
  revert h
  show (match σ[i]? with
    | some o => lstO o
    | Option.none => Option.none) = _ -> _
  cases σ[i]? with
  | none => exact nS
  | some o =>
    cases o
    case list k => exact fun h => congrArg (fun l => some (AObj.list l)) (Option.some.inj h)
    all_goals exact nS
theorem items_e {σ : Hp} {v : V} {l : List V} (h : items σ v = some l) : v = .vls l \/ ∃ i, v = .lst i /\ σ[i]? = some (.list l) := by
  cases v
  case vls k => exact .inl (congrArg V.vls (Option.some.inj h))
  case lst i => exact .inr ⟨i, rfl, lstAt_e h⟩
  all_goals exact nS h
mutual
noncomputable def frz (σ : Hp) : V -> Option V
  | .none => some .none
  | .bool b => some (.bool b)
  | .int i => some (.int i)
  | .str s => some (.str s)
  | .tup l => match frzs σ l with
    | some l' => some (.tup l')
    | Option.none => Option.none
  | .vls l => some (.vls l)
  | .lst i => match lstAt σ i with
    | some l => some (.vls l)
    | Option.none => Option.none
  | _ => Option.none
noncomputable def frzs (σ : Hp) : List V -> Option (List V)
  | [] => some []
  | v :: r => match frz σ v with
    | some v' => match frzs σ r with
      | some r' => some (v' :: r')
      | Option.none => Option.none
    | Option.none => Option.none
end
mutual
noncomputable def veq : V -> V -> Bool
  | .none, .none => true
  | .bool a, .bool b => a == b
  | .bool a, .int j => (if a then 1 else 0) == j
  | .int i, .bool b => i == (if b then 1 else 0)
  | .int i, .int j => i == j
  | .str x, .str y => leq x y
  | .vls xs, .vls ys => veqs xs ys
  | .tup xs, .tup ys => veqs xs ys
  | _, _ => false
noncomputable def veqs : List V -> List V -> Bool
  | [], [] => true
  | x :: xs, y :: ys => veq x y && veqs xs ys
  | _, _ => false
end
mutual
inductive isD : Nat -> V -> Prop
  | none {n : Nat} : isD n .none
  | bool {n : Nat} (b : Bool) : isD n (.bool b)
  | int {n : Nat} (i : Int) : isD n (.int i)
  | str {n : Nat} (s : N) : isD n (.str s)
  | tup {n : Nat} {l : List V} : isDs n l -> isD (n + 1) (.tup l)
  | vls {n : Nat} {l : List V} : isDs n l -> isD (n + 1) (.vls l)
inductive isDs : Nat -> List V -> Prop
  | nil {n : Nat} : isDs n []
  | cons {n : Nat} {x : V} {l : List V} : isD n x -> isDs n l -> isDs n (x :: l)
end
mutual
noncomputable def isDb : Nat -> V -> Bool
  | _, .none => true
  | _, .bool _ => true
  | _, .int _ => true
  | _, .str _ => true
  | n + 1, .tup l => isDbs n l
  | n + 1, .vls l => isDbs n l
  | _, _ => false
noncomputable def isDbs : Nat -> List V -> Bool
  | _, [] => true
  | n, x :: r => match isDb n x with
    | true => isDbs n r
    | false => false
end
noncomputable def ifB (b : Bool) (P : Prop) : Prop := match b with
  | true => P
  | false => False
set_option tactic.hygienic false
theorem ifB_e {b : Bool} {P : Prop} (h : ifB b P) : b = true /\ P := by
  cases b
  · exact False.elim h
  · exact ⟨rfl, h⟩
theorem ifB_ble {a b : Nat} {P : Prop} (h : ifB (Nat.ble a b) P) : a <= b /\ P := ⟨Nat.le_of_ble_eq_true (ifB_e h).1, (ifB_e h).2⟩
theorem ifB_blt {a b : Nat} {P : Prop} (h : ifB (Nat.blt a b) P) : a < b /\ P := ⟨Nat.le_of_ble_eq_true (ifB_e h).1, (ifB_e h).2⟩
noncomputable def okC (a b : N) : Bool := match Nat.ble (a.length + b.length) 1000 with
  | true => okS (a ++ b)
  | false => false
noncomputable def binop (σ : Hp) : Operator -> V -> V -> Option V
  | .Add, .int a, .int b => some (.int (a + b))
  | .Sub, .int a, .int b => some (.int (a - b))
  | .Mod, .int a, .int b => match b with
    | .ofNat (n + 1) => some (.int (Int.fmod a (Int.ofNat (n + 1))))
    | _ => Option.none
  | .Mult, .int a, .int b => match a with
    | .ofNat n => match Nat.blt n 1048576 with
      | true => some (.int (Int.ofNat n * b))
      | false => Option.none
    | _ => Option.none
  | .Add, .str a, .str b => match okC a b with
    | true => some (.str (a ++ b))
    | false => Option.none
  | .Add, a, b => match items σ a with
    | some l => match items σ b with
      | some r => some (.vls (l ++ r))
      | Option.none => Option.none
    | Option.none => Option.none
  | _, _, _ => Option.none
noncomputable def setLast : List V -> V -> List V
  | [], _ => []
  | [_], y => [y]
  | x :: x' :: r, y => x :: setLast (x' :: r) y
noncomputable def at? (l : List V) (i : Int) : Option V := match i with
  | .ofNat n => l[n]?
  | .negSucc _ => Option.none
noncomputable def consO {α : Type} : Option α -> Option (List α) -> Option (List α)
  | some a, some l => some (a :: l)
  | _, _ => Option.none
noncomputable def mapO {α β : Type} (f : α -> Option β) : List α -> Option (List β)
  | [] => some []
  | a :: r => consO (f a) (mapO f r)
theorem consO_e {α : Type} {a : Option α} {l : Option (List α)} {k : List α} (h : consO a l = some k) : ∃ x y, a = some x /\ l = some y /\ k = x :: y := by
  cases a with
  | none => exact nS h
  | some x =>
    cases l with
    | none => exact nS h
    | some y => exact ⟨x, y, rfl, rfl, (Option.some.inj h).symm⟩
theorem mapO_e {α β : Type} {f : α -> Option β} {a : α} {r : List α} {k : List β} (h : mapO f (a :: r) = some k) : ∃ x y, f a = some x /\ mapO f r = some y /\ k = x :: y := consO_e h
theorem mapO_len {α β : Type} {f : α -> Option β} {l : List α} : ∀ {k : List β}, mapO f l = some k -> l.length = k.length := by
  induction l with
  | nil => intro k h; cases h; rfl
  | cons a r ih =>
    intro k h
    obtain ⟨x, y, _, e, rfl⟩ := mapO_e h
    exact congrArg (· + 1) (ih e)
noncomputable def strV (e : V) : Option N := if h : e.ctorIdx = 3 then V.str.elim (motive_1 := fun _ => Option N) e h (fun s => some s) else none
theorem strV_e {v : V} {s : N} (h : strV v = some s) : v = .str s := by
  by_cases i : v.ctorIdx = 3
  · revert h
    exact V.str.elim (motive_1 := fun v => strV v = some s -> v = .str s) v i (fun x h => congrArg V.str (Option.some.inj h))
  · exact nS ((dif_neg i).symm.trans h)
theorem at_get {l : List V} {k : Int} {x : V} (e : at? l k = some x) : 0 <= k /\ l[k.toNat]? = some x := by
  cases k with
  | ofNat n => exact ⟨Int.natCast_nonneg n, e⟩
  | negSucc n => exact nS e
noncomputable def strsOf (l : List V) : Option (List N) := mapO strV l
noncomputable def ltN : N -> N -> Bool
  | [], [] => false
  | [], _ :: _ => true
  | _ :: _, [] => false
  | a :: as, b :: bs => match Nat.blt a b with
    | true => true
    | false => match Nat.beq a b with
      | true => ltN as bs
      | false => false
inductive Fl where
  | next | brk | cont | ret (v : V)
noncomputable def bindA : List N -> List V -> List V -> Option (List V)
  | [], [], _ => some []
  | _ :: ps, a :: as, d => match bindA ps as d with
    | some r => some (a :: r)
    | Option.none => Option.none
  | _ :: ps, [], d :: ds => match ps with
    | [] => some [d]
    | _ => Option.none
  | _, _, _ => Option.none
noncomputable def constC (e : PySem.Expr) : Const := if h : e.ctorIdx = 19 then PySem.Expr.Constant.elim (motive_1 := fun _ => Const) e h (fun c _ _ => c) else .none
noncomputable def strC : Const -> Option N
  | .str s => some s.cps.toList
  | _ => Option.none
noncomputable def keyE : Option PySem.Expr -> Option N
  | some e => strC (constC e)
  | Option.none => Option.none
noncomputable def keyStrs (l : List (Option PySem.Expr)) : Option (List N) := mapO keyE l
noncomputable def nameE (e : PySem.Expr) : Option N := if h : e.ctorIdx = 23 then PySem.Expr.Name.elim (motive_1 := fun _ => Option N) e h (fun x _ => some x.cps.toList) else none
noncomputable def names (l : List PySem.Expr) : Option (List N) := mapO nameE l
theorem constC_e {e : PySem.Expr} {c : Const} (h : constC e = c) (n : c ≠ .none) : ∃ a b, e = .Constant c a b := by
  by_cases i : e.ctorIdx = 19
  · revert h
    exact PySem.Expr.Constant.elim (motive_1 := fun e => constC e = c -> ∃ a b, e = .Constant c a b) e i (fun d a b h => ⟨a, b, congrArg (fun d => PySem.Expr.Constant d a b) h⟩)
  · exact absurd (((dif_neg i).symm.trans h).symm) n
set_option tactic.hygienic true
theorem strC_e {c : Const} {k : N} (h : strC c = some k) : ∃ s, c = .str s /\ k = s.cps.toList := by
  cases c
  case str s => exact ⟨s, rfl, (Option.some.inj h).symm⟩
  all_goals exact nS h
set_option tactic.hygienic false
theorem nameE_e {e : PySem.Expr} {k : N} (h : nameE e = some k) : ∃ x p, e = .Name x p /\ k = x.cps.toList := by
  by_cases i : e.ctorIdx = 23
  · revert h
    exact PySem.Expr.Name.elim (motive_1 := fun e => nameE e = some k -> ∃ x p, e = .Name x p /\ k = x.cps.toList) e i (fun x p h => ⟨x, p, rfl, (Option.some.inj h).symm⟩)
  · exact nS ((dif_neg i).symm.trans h)
theorem keyE_e {e : Option PySem.Expr} {k : N} (h : keyE e = some k) : ∃ s a b, e = some (.Constant (.str s) a b) /\ k = s.cps.toList := by
  cases e with
  | none => exact nS h
  | some e =>
    obtain ⟨s, h1, h2⟩ := strC_e h
    obtain ⟨a, b, rfl⟩ := constC_e h1 nofun
    exact ⟨s, a, b, rfl, h2⟩
noncomputable abbrev n_debug : N := [95, 95, 100, 101, 98, 117, 103, 95, 95]
noncomputable def isLoc1 : List (Str × NameKind) -> N -> Bool
  | [], _ => false
  | (y, k) :: r, x => match leq y.cps.toList x with
    | true => match k with
      | .local => true
      | _ => false
    | false => isLoc1 r x
noncomputable def isGlb1 : List (Str × NameKind) -> N -> Bool
  | [], _ => false
  | (y, k) :: r, x => match leq y.cps.toList x with
    | true => match k with
      | .globalImplicit => true
      | _ => false
    | false => isGlb1 r x
noncomputable def isLoc (sc : List (Str × NameKind)) (x : N) : Bool := match leq x n_debug with
  | true => false
  | false => isLoc1 sc x
noncomputable def isGlb (sc : List (Str × NameKind)) (x : N) : Bool := match leq x n_debug with
  | true => false
  | false => isGlb1 sc x
noncomputable def plain1 : PySem.Expr -> Bool
  | .Starred _ _ => false
  | _ => true
noncomputable def noStar : List PySem.Expr -> Bool
  | [] => true
  | e :: r => match plain1 e with
    | true => noStar r
    | false => false
noncomputable def intC : Const -> Option Int
  | .int i => some i
  | _ => Option.none
set_option tactic.hygienic true
theorem intC_e {c : Const} {i : Int} (h : intC c = some i) : c = .int i := by
  cases c
  case int k => exact congrArg Const.int (Option.some.inj h)
  all_goals exact nS h
noncomputable def isSub : UnaryOp -> Bool
  | .USub => true
  | _ => false
theorem isSub_e {op : UnaryOp} (h : isSub op = true) : op = .USub := by
  cases op
  case USub => rfl
  all_goals exact tF h
noncomputable def usubI (op : UnaryOp) (e : PySem.Expr) : Option Int := match isSub op with
  | true => intC (constC e)
  | false => Option.none
set_option tactic.hygienic false
theorem usubI_e {op : UnaryOp} {e : PySem.Expr} {i : Int} (h : usubI op e = some i) : op = .USub /\ ∃ k p, e = .Constant (.int i) k p := by
  unfold usubI at h
  cases q : isSub op with
  | false => rw [q] at h; exact nS h
  | true => rw [q] at h; exact ⟨isSub_e q, constC_e (intC_e h) nofun⟩
noncomputable def cmp1 : List CmpOp -> List PySem.Expr -> Option (CmpOp × PySem.Expr)
  | [op], [r] => some (op, r)
  | _, _ => Option.none
theorem cmp1_e {ops : List CmpOp} {rs : List PySem.Expr} {p : CmpOp × PySem.Expr} (h : cmp1 ops rs = some p) : ops = [p.1] /\ rs = [p.2] := by
  rcases ops with _ | ⟨op, _ | ⟨o2, ops⟩⟩
  · exact nS h
  · rcases rs with _ | ⟨r, _ | ⟨r2, rs⟩⟩
    · exact nS h
    · cases h; exact ⟨rfl, rfl⟩
    · exact nS h
  · exact nS h
noncomputable def slcE (e : PySem.Expr) : Option (Option PySem.Expr × Option PySem.Expr × Option PySem.Expr) := if h : e.ctorIdx = 26 then PySem.Expr.Slice.elim (motive_1 := fun _ => Option (Option PySem.Expr × Option PySem.Expr × Option PySem.Expr)) e h (fun lo hi st _ => some (lo, hi, st)) else none
theorem slcE_e {e : PySem.Expr} {x : Option PySem.Expr × Option PySem.Expr × Option PySem.Expr} (h : slcE e = some x) : ∃ p, e = .Slice x.1 x.2.1 x.2.2 p := by
  by_cases i : e.ctorIdx = 26
  · revert h
    exact PySem.Expr.Slice.elim (motive_1 := fun e => slcE e = some x -> ∃ p, e = .Slice x.1 x.2.1 x.2.2 p) e i (fun lo hi st p h => ⟨p, congrArg (fun x : Option PySem.Expr × Option PySem.Expr × Option PySem.Expr => PySem.Expr.Slice x.1 x.2.1 x.2.2 p) (Option.some.inj h)⟩)
  · exact nS ((dif_neg i).symm.trans h)
noncomputable def plainIdx (e : PySem.Expr) : Bool := match slcE e with
  | some _ => false
  | Option.none => true
noncomputable def noStep (x : Option PySem.Expr × Option PySem.Expr × Option PySem.Expr) : Option (Option PySem.Expr × Option PySem.Expr) := match x.2.2 with
  | some _ => Option.none
  | Option.none => some (x.1, x.2.1)
noncomputable def sliceOf (e : PySem.Expr) : Option (Option (Option PySem.Expr × Option PySem.Expr)) := (slcE e).map noStep
theorem sliceOf_n {i : PySem.Expr} (h : sliceOf i = Option.none) : plainIdx i = true := by
  unfold sliceOf at h
  unfold plainIdx
  cases q : slcE i with
  | none => rfl
  | some x => rw [q] at h; exact nS h.symm
theorem sliceOf_s {i : PySem.Expr} {p : Option PySem.Expr × Option PySem.Expr} (h : sliceOf i = some (some p)) : ∃ q, i = .Slice p.1 p.2 Option.none q := by
  unfold sliceOf at h
  cases q : slcE i with
  | none => rw [q] at h; exact nS h
  | some x =>
    rw [q] at h
    obtain ⟨a, b, c⟩ := x
    obtain ⟨z, rfl⟩ := slcE_e q
    cases c with
    | some _ => exact nS (Option.some.inj h)
    | none => exact ⟨z, congrArg (fun p : Option PySem.Expr × Option PySem.Expr => PySem.Expr.Slice p.1 p.2 none z) (Option.some.inj (Option.some.inj h))⟩
noncomputable def gen1 : List Comprehension -> Option (PySem.Expr × PySem.Expr)
  | [⟨t, it, ifs, a⟩] => match ifs with
    | [] => match a with
      | .ofNat n => match n with
        | 0 => some (t, it)
        | _ + 1 => Option.none
      | .negSucc _ => Option.none
    | _ :: _ => Option.none
  | _ => Option.none
set_option tactic.hygienic true
theorem gen1_e {gs : List Comprehension} {p : PySem.Expr × PySem.Expr} (h : gen1 gs = some p) : gs = [⟨p.1, p.2, [], 0⟩] := by
  rcases gs with _ | ⟨⟨t, it, _ | ⟨i, ifs⟩, (_ | a) | a⟩, _ | ⟨g, gs⟩⟩
  case cons.nil.ofNat.zero.nil => cases h; rfl
  all_goals exact nS h
noncomputable def consB {α : Type} : List α -> Bool
  | [] => false
  | _ :: _ => true
set_option tactic.hygienic false
theorem consB_e {α : Type} {l : List α} (h : consB l = true) : ∃ a r, l = a :: r := by
  cases l with
  | nil => exact tF h
  | cons a r => exact ⟨a, r, rfl⟩
noncomputable def nameS (e : PySem.Expr) : Option Str := if h : e.ctorIdx = 23 then PySem.Expr.Name.elim (motive_1 := fun _ => Option Str) e h (fun x _ => some x) else none
theorem nameS_e {e : PySem.Expr} {x : Str} (h : nameS e = some x) : ∃ p, e = .Name x p := by
  by_cases i : e.ctorIdx = 23
  · revert h
    exact PySem.Expr.Name.elim (motive_1 := fun e => nameS e = some x -> ∃ p, e = .Name x p) e i (fun y p h => ⟨p, congrArg (fun x => PySem.Expr.Name x p) (Option.some.inj h)⟩)
  · exact nS ((dif_neg i).symm.trans h)
noncomputable def lstE (e : PySem.Expr) : Option (List PySem.Expr) := if h : e.ctorIdx = 24 then PySem.Expr.List.elim (motive_1 := fun _ => Option (List PySem.Expr)) e h (fun l _ => some l) else none
theorem lstE_e {e : PySem.Expr} {x : List PySem.Expr} (h : lstE e = some x) : ∃ p, e = .List x p := by
  by_cases i : e.ctorIdx = 24
  · revert h
    exact PySem.Expr.List.elim (motive_1 := fun e => lstE e = some x -> ∃ p, e = .List x p) e i (fun l p h => ⟨p, congrArg (fun l => PySem.Expr.List l p) (Option.some.inj h)⟩)
  · exact nS ((dif_neg i).symm.trans h)
noncomputable def listTo (t v : PySem.Expr) : Option (Str × List PySem.Expr) := match lstE v with
  | some es => match nameS t with
    | some x => some (x, es)
    | Option.none => Option.none
  | Option.none => Option.none
theorem listTo_e {t v : PySem.Expr} {p : Str × List PySem.Expr} (h : listTo t v = some p) : ∃ a b, t = .Name p.1 a /\ v = .List p.2 b := by
  unfold listTo at h
  cases q : lstE v with
  | none => rw [q] at h; exact nS h
  | some es =>
    rw [q] at h
    cases q2 : nameS t with
    | none => rw [q2] at h; exact nS h
    | some x =>
      rw [q2] at h
      obtain rfl := Option.some.inj h
      obtain ⟨a, rfl⟩ := nameS_e q2
      obtain ⟨b, rfl⟩ := lstE_e q
      exact ⟨a, b, rfl, rfl⟩
noncomputable def okSwap (t v : PySem.Expr) : Bool := match v with
  | .Tuple _ _ _ => match t with
    | .Name _ _ => true
    | .Subscript _ _ _ => true
    | _ => false
  | _ => true
noncomputable def one1 {α : Type} : List α -> Option α
  | [a] => some a
  | _ => Option.none
theorem one1_e {α : Type} {l : List α} {a : α} (h : one1 l = some a) : l = [a] := by
  rcases l with _ | ⟨x, _ | ⟨y, l⟩⟩
  · exact nS h
  · exact congrArg (fun a => [a]) (Option.some.inj h)
  · exact nS h
noncomputable def calE (e : PySem.Expr) : Option (PySem.Expr × List PySem.Expr × List Keyword) := if h : e.ctorIdx = 16 then PySem.Expr.Call.elim (motive_1 := fun _ => Option (PySem.Expr × List PySem.Expr × List Keyword)) e h (fun f es ks _ => some (f, es, ks)) else none
theorem calE_e {e : PySem.Expr} {x : PySem.Expr × List PySem.Expr × List Keyword} (h : calE e = some x) : ∃ p, e = .Call x.1 x.2.1 x.2.2 p := by
  by_cases i : e.ctorIdx = 16
  · revert h
    exact PySem.Expr.Call.elim (motive_1 := fun e => calE e = some x -> ∃ p, e = .Call x.1 x.2.1 x.2.2 p) e i (fun f es ks p h => ⟨p, congrArg (fun x : PySem.Expr × List PySem.Expr × List Keyword => PySem.Expr.Call x.1 x.2.1 x.2.2 p) (Option.some.inj h)⟩)
  · exact nS ((dif_neg i).symm.trans h)
noncomputable def noKw (es : List PySem.Expr) (ks : List Keyword) (x : N) : Option (N × List PySem.Expr) := match ks with
  | [] => some (x, es)
  | _ :: _ => Option.none
noncomputable def callN (e : PySem.Expr) : Option (N × List PySem.Expr) := match calE e with
  | some x => (nameE x.1).bind (noKw x.2.1 x.2.2)
  | Option.none => Option.none
theorem callN_e {e : PySem.Expr} {p : N × List PySem.Expr} (h : callN e = some p) : ∃ x q cp, e = .Call (.Name x q) p.2 [] cp /\ p.1 = x.cps.toList := by
  unfold callN at h
  cases q : calE e with
  | none => rw [q] at h; exact nS h
  | some x =>
    rw [q] at h
    obtain ⟨f, es, ks⟩ := x
    obtain ⟨cp, rfl⟩ := calE_e q
    cases q2 : nameE f with
    | none => have h : (nameE f).bind (noKw es ks) = some p := h; rw [q2] at h; exact nS h
    | some k =>
      have h : (nameE f).bind (noKw es ks) = some p := h
      rw [q2] at h
      obtain ⟨x, a, rfl, rfl⟩ := nameE_e q2
      cases ks with
      | cons _ _ => exact nS h
      | nil => obtain rfl := Option.some.inj h; exact ⟨x, a, cp, rfl, rfl⟩
noncomputable def raiseOf (a b : Option PySem.Expr) : Option (N × List PySem.Expr) := match b with
  | some _ => Option.none
  | Option.none => match a with
    | some e => callN e
    | Option.none => Option.none
theorem raiseOf_e {a b : Option PySem.Expr} {p : N × List PySem.Expr} (h : raiseOf a b = some p) : ∃ x q cp, a = some (.Call (.Name x q) p.2 [] cp) /\ b = Option.none /\ p.1 = x.cps.toList := by
  cases b with
  | some _ => exact nS h
  | none =>
    cases a with
    | none => exact nS h
    | some e =>
      obtain ⟨x, q, cp, rfl, e⟩ := callN_e h
      exact ⟨x, q, cp, rfl, rfl, e⟩
noncomputable def isB : PySem.Expr -> Bool
  | .UnaryOp op _ _ => match op with
    | .Not => true
    | _ => false
  | .BoolOp _ _ _ => true
  | .IfExp _ _ _ _ => true
  | _ => false
noncomputable def isCmp (e : PySem.Expr) : Bool := Nat.beq e.ctorIdx 15
theorem isCmp_e {e : PySem.Expr} (h : isCmp e = true) : ∃ l ops rs p, e = .Compare l ops rs p :=
  PySem.Expr.Compare.elim (motive_1 := fun e => ∃ l ops rs p, e = .Compare l ops rs p) e (Nat.eq_of_beq_eq_true h) fun l ops rs p => ⟨l, ops, rs, p, rfl⟩
noncomputable def isSet : PySem.Expr -> Bool
  | .Set _ _ _ => true
  | _ => false
noncomputable def isComp : PySem.Expr -> Bool
  | .ListComp .. => true
  | .SetComp .. => true
  | .DictComp .. => true
  | _ => false
noncomputable def baseOk : PySem.Expr -> Bool
  | .Call (.Name _ _) _ _ _ => false
  | _ => true
noncomputable def siC : Const -> Option V
  | .str x => match okS x.cps.toList with
    | true => some (.str x.cps.toList)
    | false => Option.none
  | .int i => some (.int i)
  | _ => Option.none
noncomputable def siE (e : PySem.Expr) : Option V := siC (constC e)
noncomputable def consts (l : List PySem.Expr) : Option (List V) := mapO siE l
set_option tactic.hygienic true
theorem siC_e {c : Const} {v : V} (h : siC c = some v) : (∃ x, c = .str x /\ v = .str x.cps.toList /\ okS x.cps.toList = true) \/ ∃ i, c = .int i /\ v = .int i := by
  cases c
  case str x =>
    have h : (match okS x.cps.toList with
      | true => some (V.str x.cps.toList)
      | false => Option.none) = some v := h
    cases ok : okS x.cps.toList with
    | true => rw [ok] at h; exact .inl ⟨x, rfl, (Option.some.inj h).symm, ok⟩
    | false => rw [ok] at h; cases h
  case int i => exact .inr ⟨i, rfl, (Option.some.inj h).symm⟩
  all_goals exact nS h
set_option tactic.hygienic false
theorem siE_e {e : PySem.Expr} {v : V} (h : siE e = some v) : (∃ x a b, e = .Constant (.str x) a b /\ v = .str x.cps.toList /\ okS x.cps.toList = true) \/ ∃ i a b, e = .Constant (.int i) a b /\ v = .int i := by
  rcases siC_e h with ⟨x, h1, h2, h3⟩ | ⟨i, h1, h2⟩
  · obtain ⟨a, b, rfl⟩ := constC_e h1 nofun; exact .inl ⟨x, a, b, rfl, h2, h3⟩
  · obtain ⟨a, b, rfl⟩ := constC_e h1 nofun; exact .inr ⟨i, a, b, rfl, h2⟩
noncomputable def nodupN : List N -> Bool
  | [] => true
  | k :: r => match memN r k with
    | true => false
    | false => nodupN r
noncomputable def dctOk (ns : List N) (vs : List V) : Bool := match Nat.beq ns.length vs.length with
  | true => match nodupN ns with
    | true => match Nat.ble 1 ns.length with
      | true => Nat.ble ns.length 15
      | false => false
    | false => false
  | false => false
noncomputable def putAll : Env -> List N -> List V -> Option Env
  | ρ, [], [] => some ρ
  | ρ, x :: xs, v :: vs => match isLoc ρ.sc x with
    | true => putAll (ρ.put x v) xs vs
    | false => Option.none
  | _, _, _ => Option.none
theorem putAll_e {ρ ρ' : Env} {x : N} {xs : List N} {v : V} {vs : List V} (h : putAll ρ (x :: xs) (v :: vs) = some ρ') : isLoc ρ.sc x = true /\ putAll (ρ.put x v) xs vs = some ρ' := by
  revert h
  show (match isLoc ρ.sc x with
    | true => putAll (ρ.put x v) xs vs
    | false => Option.none) = _ -> _
  cases isLoc ρ.sc x
  · exact nS
  · exact fun h => ⟨rfl, h⟩
noncomputable def isOne : Const -> Bool
  | .int (.ofNat n) => Nat.beq n 1
  | _ => false
noncomputable def unE (e : PySem.Expr) : Option (UnaryOp × PySem.Expr) := if h : e.ctorIdx = 3 then PySem.Expr.UnaryOp.elim (motive_1 := fun _ => Option (UnaryOp × PySem.Expr)) e h (fun op x _ => some (op, x)) else none
theorem unE_e {e : PySem.Expr} {x : UnaryOp × PySem.Expr} (h : unE e = some x) : ∃ p, e = .UnaryOp x.1 x.2 p := by
  by_cases i : e.ctorIdx = 3
  · revert h
    exact PySem.Expr.UnaryOp.elim (motive_1 := fun e => unE e = some x -> ∃ p, e = .UnaryOp x.1 x.2 p) e i (fun op y p h => ⟨p, congrArg (fun x : UnaryOp × PySem.Expr => PySem.Expr.UnaryOp x.1 x.2 p) (Option.some.inj h)⟩)
  · exact nS ((dif_neg i).symm.trans h)
noncomputable def neg1 (e : PySem.Expr) : Bool := match unE e with
  | some x => isSub x.1 && isOne (constC x.2)
  | Option.none => false
set_option tactic.hygienic true
theorem isOne_e {c : Const} (h : isOne c = true) : c = .int 1 := by
  cases c
  case int i =>
    cases i with
    | ofNat n => exact congrArg (fun n : Nat => Const.int (.ofNat n)) (Nat.eq_of_beq_eq_true h)
    | negSucc n => exact tF h
  all_goals exact tF h
set_option tactic.hygienic false
theorem neg1_e {e : PySem.Expr} (h : neg1 e = true) : ∃ k p q, e = .UnaryOp .USub (.Constant (.int 1) k p) q := by
  unfold neg1 at h
  cases q : unE e with
  | none => rw [q] at h; exact tF h
  | some x =>
    rw [q] at h
    obtain ⟨h1, h2⟩ := Bool.and_eq_true_iff.mp h
    obtain ⟨z, rfl⟩ := unE_e q
    obtain ⟨k, p, e⟩ := constC_e (isOne_e h2) nofun
    exact ⟨k, p, z, by rw [isSub_e h1, e]⟩
noncomputable def look3 : List (N × N × N) -> N -> N -> Option N
  | [], _, _ => Option.none
  | (a, b, c) :: r, x, y => match leq a x with
    | true => match leq b y with
      | true => some c
      | false => look3 r x y
    | false => look3 r x y
noncomputable def forL (bd : V -> Env -> Hp -> (Fl -> Env -> Hp -> Prop) -> Prop) (Q : Fl -> Env -> Hp -> Prop) : List V -> Env -> Hp -> Prop
  | [], ρ, σ => Q .next ρ σ
  | v :: r, ρ, σ => bd v ρ σ fun f ρ' σ' => match f with
    | .next => forL bd Q r ρ' σ'
    | .cont => forL bd Q r ρ' σ'
    | .brk => Q .next ρ' σ'
    | .ret x => Q (.ret x) ρ' σ'
noncomputable def intsL (lo : Int) : Nat -> List V
  | 0 => []
  | n + 1 => .int lo :: intsL (lo + 1) n
noncomputable def rngL (a b : Int) : Option (List V) := match a with
  | .ofNat a => match b with
    | .ofNat b => match Nat.ble a 4096 with
      | true => match Nat.ble b 4096 with
        | true => some (intsL (.ofNat a) (b - a))
        | false => Option.none
      | false => Option.none
    | .negSucc _ => Option.none
  | .negSucc _ => Option.none
noncomputable def forItems (σ : Hp) : V -> Option (List V)
  | .rng a b => rngL a b
  | .vls l => some l
  | _ => Option.none
theorem rngL_e {a b : Int} {l : List V} (h : rngL a b = some l) : ∃ i j : Nat, a = .ofNat i /\ b = .ofNat j /\ i <= 4096 /\ j <= 4096 /\ l = intsL (.ofNat i) (j - i) := by
  cases a with
  | negSucc i => exact nS h
  | ofNat i =>
    cases b with
    | negSucc j => exact nS h
    | ofNat j =>
      revert h
      show (match Nat.ble i 4096 with
        | true => match Nat.ble j 4096 with
          | true => some (intsL (.ofNat i) (j - i))
          | false => Option.none
        | false => Option.none) = _ -> _
      cases q1 : Nat.ble i 4096 with
      | false => exact nS
      | true =>
        cases q2 : Nat.ble j 4096 with
        | false => exact nS
        | true => exact fun h => ⟨i, j, rfl, rfl, Nat.le_of_ble_eq_true q1, Nat.le_of_ble_eq_true q2, (Option.some.inj h).symm⟩
set_option tactic.hygienic true
theorem forItems_e {σ : Hp} {w : V} {l : List V} (h : forItems σ w = some l) : (∃ i j : Nat, w = .rng (.ofNat i) (.ofNat j) /\ i <= 4096 /\ j <= 4096 /\ l = intsL (.ofNat i) (j - i)) \/ w = .vls l := by
  cases w
  case rng a b =>
    obtain ⟨i, j, rfl, rfl, h'⟩ := rngL_e h
    exact .inl ⟨i, j, rfl, h'⟩
  case vls k => exact .inr (congrArg V.vls (Option.some.inj h))
  all_goals exact nS h
noncomputable def compL (bd : V -> (V -> Prop) -> Prop) : List V -> List V -> (List V -> Prop) -> Prop
  | [], acc, Q => Q acc
  | v :: r, acc, Q => bd v fun y => compL bd r (acc ++ [y]) Q
noncomputable def tupE (e : PySem.Expr) : Option (List PySem.Expr) := if h : e.ctorIdx = 25 then PySem.Expr.Tuple.elim (motive_1 := fun _ => Option (List PySem.Expr)) e h (fun l _ _ => some l) else none
set_option tactic.hygienic false
theorem tupE_e {e : PySem.Expr} {x : List PySem.Expr} (h : tupE e = some x) : ∃ k p, e = .Tuple x k p := by
  by_cases i : e.ctorIdx = 25
  · revert h
    exact PySem.Expr.Tuple.elim (motive_1 := fun e => tupE e = some x -> ∃ k p, e = .Tuple x k p) e i (fun l k p h => ⟨k, p, congrArg (fun l => PySem.Expr.Tuple l k p) (Option.some.inj h)⟩)
  · exact nS ((dif_neg i).symm.trans h)
noncomputable def tgts (t : PySem.Expr) : Option (List N) := match nameE t with
  | some x => some [x]
  | Option.none => match tupE t with
    | some ts => names ts
    | Option.none => Option.none
theorem tgts_e {t : PySem.Expr} {l : List N} (h : tgts t = some l) : (∃ x p, t = .Name x p /\ l = [x.cps.toList]) \/ ∃ ts k p, t = .Tuple ts k p /\ names ts = some l := by
  unfold tgts at h
  cases q : nameE t with
  | some x =>
    rw [q] at h
    obtain ⟨x, p, rfl, rfl⟩ := nameE_e q
    exact .inl ⟨x, p, rfl, (Option.some.inj h).symm⟩
  | none =>
    rw [q] at h
    cases q2 : tupE t with
    | none => rw [q2] at h; exact nS h
    | some ts =>
      rw [q2] at h
      obtain ⟨k, p, rfl⟩ := tupE_e q2
      exact .inr ⟨ts, k, p, rfl, h⟩
noncomputable def tvals (t : PySem.Expr) (v : V) : Option (List V) := match t with
  | .Name _ _ => some [v]
  | .Tuple _ _ _ => match v with
    | .tup l => some l
    | _ => Option.none
  | _ => Option.none
set_option tactic.hygienic true
theorem tvals_t {ts : List PySem.Expr} {k : Nat} {p : Pos} {v : V} {l : List V} (h : tvals (.Tuple ts k p) v = some l) : v = .tup l := by
  cases v
  case tup => exact congrArg V.tup (Option.some.inj h)
  all_goals exact nS h
noncomputable def freeK : List (Str × NameKind) -> List N
  | [] => []
  | (x, k) :: r => match k with
    | .free => x.cps.toList :: freeK r
    | _ => freeK r
noncomputable def freeV (ks : List N) (vs : List V) : List N -> Option (List V)
  | [] => some []
  | x :: r => match look ks vs x with
    | some v => match freeV ks vs r with
      | some l => some (v :: l)
      | Option.none => Option.none
    | Option.none => Option.none
noncomputable def scpOk : List (Str × NameKind) -> Bool
  | [] => true
  | (_, k) :: r => match k with
    | .cell => false
    | _ => scpOk r
noncomputable def allLoc (sc : List (Str × NameKind)) : List N -> Bool
  | [] => true
  | x :: r => match isLoc sc x with
    | true => allLoc sc r
    | false => false
noncomputable def noLoc (sc : List (Str × NameKind)) : List N -> Bool
  | [] => true
  | x :: r => match isLoc1 sc x with
    | true => false
    | false => noLoc sc r
noncomputable def scpOnce : List (Str × NameKind) -> Bool
  | [] => true
  | (x, _) :: r => match memN (r.map fun y => y.1.cps.toList) x.cps.toList with
    | true => false
    | false => scpOnce r
noncomputable def isFun : ScopeKind -> Bool
  | .function => true
  | _ => false
theorem isFun_e {k : ScopeKind} (h : isFun k = true) : k = .function := by
  cases k
  case function => rfl
  all_goals exact tF h
noncomputable def nmFine (x : N) : Bool := match leq x n_debug with
  | true => false
  | false => match leq x [95, 95, 99, 108, 97, 115, 115, 100, 105, 99, 116, 95, 95] with
    | true => false
    | false => true
noncomputable def allFine : List N -> Bool
  | [] => true
  | x :: r => match nmFine x with
    | true => allFine r
    | false => false
set_option tactic.hygienic false
theorem bT {P : Prop} {b : Bool} (h : match b with
    | true => P
    | false => False) : b = true /\ P := by
  cases b
  · exact h.elim
  · exact ⟨rfl, h⟩
theorem oS {α : Type} {F : α -> Prop} {o : Option α} (h : match o with
    | some x => F x
    | none => False) : ∃ x, o = some x /\ F x := by
  cases o
  · exact h.elim
  · exact ⟨_, rfl, h⟩
theorem oM {α β : Type} {F : α -> Option β} {o : Option α} {y : β} (h : (match o with
    | some x => F x
    | none => none) = some y) : ∃ x, o = some x /\ F x = some y := by
  cases o
  · exact nS h
  · exact ⟨_, rfl, h⟩
theorem bM {β : Type} {o : Option β} {b : Bool} {y : β} (h : (match b with
    | true => o
    | false => none) = some y) : b = true /\ o = some y := by
  cases b
  · exact nS h
  · exact ⟨rfl, h⟩
theorem bB {b c : Bool} (h : (match b with
    | true => c
    | false => false) = true) : b = true /\ c = true := by
  cases b
  · exact tF h
  · exact ⟨rfl, h⟩
theorem bF {b c : Bool} (h : (match b with
    | true => false
    | false => c) = true) : b = false /\ c = true := by
  cases b
  · exact ⟨rfl, h⟩
  · exact tF h
end Mine
end

section
open PySem
set_option backward.match.sparseCases false
namespace Mine
noncomputable abbrev n_len : N := [108, 101, 110]
noncomputable abbrev n_max : N := [109, 97, 120]
noncomputable abbrev n_range : N := [114, 97, 110, 103, 101]
noncomputable abbrev n_list : N := [108, 105, 115, 116]
noncomputable abbrev n_sorted : N := [115, 111, 114, 116, 101, 100]
noncomputable abbrev n_pick : N := [95, 108, 97, 119, 95, 112, 105, 99, 107]
noncomputable abbrev n_append : N := [97, 112, 112, 101, 110, 100]
noncomputable abbrev n_get : N := [103, 101, 116]
noncomputable abbrev n_init : N := [95, 95, 105, 110, 105, 116, 95, 95]
noncomputable abbrev n_src : N := [83, 111, 117, 114, 99, 101, 69, 114, 114, 111, 114]
noncomputable abbrev n_abs : N := [97, 98, 115]
noncomputable abbrev n_int : N := [105, 110, 116]
noncomputable abbrev n_sum : N := [115, 117, 109]
noncomputable abbrev n_TokenRow : N := [84, 111, 107, 101, 110, 82, 111, 119]
noncomputable abbrev n_next_token : N := [110, 101, 120, 116, 95, 116, 111, 107, 101, 110]
noncomputable abbrev n_Token : N := [84, 111, 107, 101, 110]
noncomputable abbrev n_kind : N := [107, 105, 110, 100]
noncomputable abbrev n_value : N := [118, 97, 108, 117, 101]
noncomputable abbrev n_at : N := [97, 116]
noncomputable abbrev n_eof : N := [101, 111, 102]
noncomputable abbrev n_parted : N := [112, 97, 114, 116, 101, 100]
noncomputable abbrev n_tokens : N := [116, 111, 107, 101, 110, 115]
noncomputable abbrev n_place : N := [112, 108, 97, 99, 101]
noncomputable def oP {α : Type} (F : α -> Prop) (o : Option α) : Prop := match o with
  | some x => F x
  | Option.none => False
set_option tactic.hygienic false
theorem oP_e {α : Type} {F : α -> Prop} {o : Option α} (h : oP F o) : ∃ x, o = some x /\ F x := by
  cases o
  · exact False.elim h
  · exact ⟨_, rfl, h⟩
noncomputable def isNone (v : V) : Bool := Nat.beq v.ctorIdx 0
theorem isNone_e {v : V} (h : isNone v = true) : v = .none := V.none.elim (motive_1 := fun v => v = .none) v (Nat.eq_of_beq_eq_true h) rfl
noncomputable def noneK (P : Hp -> Prop) (v : V) (σ : Hp) : Prop := ifB (isNone v) (P σ)
theorem noneK_e {P : Hp -> Prop} {v : V} {σ : Hp} (h : noneK P v σ) : v = .none /\ P σ := ⟨isNone_e (ifB_e h).1, (ifB_e h).2⟩
theorem bind_e {α β : Type} {o : Option α} {f : α -> Option β} {y : β} (h : o.bind f = some y) : ∃ x, o = some x /\ f x = some y := by
  cases o
  · exact nS h
  · exact ⟨_, rfl, h⟩
theorem map_e {α β : Type} {o : Option α} {f : α -> β} {y : β} (h : o.map f = some y) : ∃ x, o = some x /\ y = f x := by
  cases o
  · exact nS h
  · exact ⟨_, rfl, (Option.some.inj h).symm⟩
noncomputable def oneV : List V -> Option V
  | [v] => some v
  | _ => Option.none
noncomputable def twoV : List V -> Option (V × V)
  | [v, w] => some (v, w)
  | _ => Option.none
theorem oneV_e {vs : List V} {v : V} (h : oneV vs = some v) : vs = [v] := by
  rcases vs with _ | ⟨a, _ | ⟨b, vs⟩⟩
  · exact nS h
  · exact congrArg (fun v => [v]) (Option.some.inj h)
  · exact nS h
theorem twoV_e {vs : List V} {p : V × V} (h : twoV vs = some p) : vs = [p.1, p.2] := by
  rcases vs with _ | ⟨a, _ | ⟨b, _ | ⟨c, vs⟩⟩⟩
  · exact nS h
  · exact nS h
  · exact congrArg (fun p : V × V => [p.1, p.2]) (Option.some.inj h)
  · exact nS h
noncomputable def intV (e : V) : Option Int := if h : e.ctorIdx = 2 then V.int.elim (motive_1 := fun _ => Option Int) e h (fun x => some x) else none
theorem intV_e {v : V} {x : Int} (h : intV v = some x) : v = .int x := by
  by_cases i : v.ctorIdx = 2
  · revert h
    exact V.int.elim (motive_1 := fun v => intV v = some x -> v = .int x) v i (fun y h => congrArg V.int (Option.some.inj h))
  · exact nS ((dif_neg i).symm.trans h)
noncomputable def tupV (e : V) : Option (List V) := if h : e.ctorIdx = 4 then V.tup.elim (motive_1 := fun _ => Option (List V)) e h (fun x => some x) else none
theorem tupV_e {v : V} {x : (List V)} (h : tupV v = some x) : v = .tup x := by
  by_cases i : v.ctorIdx = 4
  · revert h
    exact V.tup.elim (motive_1 := fun v => tupV v = some x -> v = .tup x) v i (fun y h => congrArg V.tup (Option.some.inj h))
  · exact nS ((dif_neg i).symm.trans h)
noncomputable def vlsV (e : V) : Option (List V) := if h : e.ctorIdx = 5 then V.vls.elim (motive_1 := fun _ => Option (List V)) e h (fun x => some x) else none
theorem vlsV_e {v : V} {x : (List V)} (h : vlsV v = some x) : v = .vls x := by
  by_cases i : v.ctorIdx = 5
  · revert h
    exact V.vls.elim (motive_1 := fun v => vlsV v = some x -> v = .vls x) v i (fun y h => congrArg V.vls (Option.some.inj h))
  · exact nS ((dif_neg i).symm.trans h)
noncomputable def lstV (e : V) : Option Nat := if h : e.ctorIdx = 6 then V.lst.elim (motive_1 := fun _ => Option Nat) e h (fun x => some x) else none
theorem lstV_e {v : V} {x : Nat} (h : lstV v = some x) : v = .lst x := by
  by_cases i : v.ctorIdx = 6
  · revert h
    exact V.lst.elim (motive_1 := fun v => lstV v = some x -> v = .lst x) v i (fun y h => congrArg V.lst (Option.some.inj h))
  · exact nS ((dif_neg i).symm.trans h)
noncomputable def bolV (e : V) : Option Bool := if h : e.ctorIdx = 1 then V.bool.elim (motive_1 := fun _ => Option Bool) e h (fun x => some x) else none
theorem bolV_e {v : V} {x : Bool} (h : bolV v = some x) : v = .bool x := by
  by_cases i : v.ctorIdx = 1
  · revert h
    exact V.bool.elim (motive_1 := fun v => bolV v = some x -> v = .bool x) v i (fun y h => congrArg V.bool (Option.some.inj h))
  · exact nS ((dif_neg i).symm.trans h)
noncomputable def objV (e : V) : Option Nat := if h : e.ctorIdx = 7 then V.obj.elim (motive_1 := fun _ => Option Nat) e h (fun _ i => some i) else none
theorem objV_e {v : V} {i : Nat} (h : objV v = some i) : ∃ C, v = .obj C i := by
  by_cases q : v.ctorIdx = 7
  · revert h
    exact V.obj.elim (motive_1 := fun v => objV v = some i -> ∃ C, v = .obj C i) v q (fun C j h => ⟨C, congrArg (V.obj C) (Option.some.inj h)⟩)
  · exact nS ((dif_neg q).symm.trans h)
noncomputable def seqOf (σ : Hp) (o : V) : Option (List V) := match tupV o with
  | some l => some l
  | Option.none => items σ o
theorem seqOf_e {σ : Hp} {o : V} {l : List V} (h : seqOf σ o = some l) : o = .tup l \/ items σ o = some l := by
  unfold seqOf at h
  cases q : tupV o with
  | none => rw [q] at h; exact .inr h
  | some k => rw [q] at h; exact .inl (Option.some.inj h ▸ tupV_e q)
noncomputable def natI : Int -> Option Nat
  | .ofNat n => some n
  | .negSucc _ => Option.none
noncomputable def natV (v : V) : Option Nat := (intV v).bind natI
theorem natV_e {v : V} {n : Nat} (h : natV v = some n) : v = .int (.ofNat n) := by
  obtain ⟨i, h1, h2⟩ := bind_e h
  cases i with
  | negSucc _ => exact nS h2
  | ofNat k => obtain rfl := Option.some.inj h2; exact intV_e h1
noncomputable def lenF (σ : Hp) (vs : List V) : Option V := (oneV vs).bind fun v => (seqOf σ v).map fun l => .int l.length
noncomputable def maxF (vs : List V) : Option V := (twoV vs).bind fun p => (intV p.1).bind fun a => (intV p.2).map fun b => .int (if a < b then b else a)
noncomputable def rngF (vs : List V) : Option V := match oneV vs with
  | some v => (intV v).map fun b => .rng 0 b
  | Option.none => (twoV vs).bind fun p => (intV p.1).bind fun a => (intV p.2).map fun b => .rng a b
noncomputable def lstF (σ : Hp) (vs : List V) : Option V := (oneV vs).bind fun v => (items σ v).map .vls
theorem lenF_e {σ : Hp} {vs : List V} {y : V} (h : lenF σ vs = some y) : ∃ v l, vs = [v] /\ (v = .tup l \/ items σ v = some l) /\ y = .int l.length := by
  obtain ⟨v, h1, h⟩ := bind_e h
  obtain ⟨l, h2, h⟩ := map_e h
  exact ⟨v, l, oneV_e h1, seqOf_e h2, h⟩
theorem ints_e {p : V × V} {f : Int -> Int -> V} {y : V} (h : ((intV p.1).bind fun a => (intV p.2).map fun b => f a b) = some y) : ∃ a b, p.1 = .int a /\ p.2 = .int b /\ y = f a b := by
  obtain ⟨a, h1, h⟩ := bind_e h
  obtain ⟨b, h2, h⟩ := map_e h
  exact ⟨a, b, intV_e h1, intV_e h2, h⟩
theorem twoI_e {vs : List V} {f : Int -> Int -> V} {y : V} (h : ((twoV vs).bind fun p => (intV p.1).bind fun a => (intV p.2).map fun b => f a b) = some y) : ∃ a b, vs = [.int a, .int b] /\ y = f a b := by
  obtain ⟨p, h1, h⟩ := bind_e h
  obtain ⟨a, b, h2, h3, h⟩ := ints_e h
  exact ⟨a, b, by rw [twoV_e h1, h2, h3], h⟩
theorem maxF_e {vs : List V} {y : V} (h : maxF vs = some y) : ∃ a b, vs = [.int a, .int b] /\ y = .int (if a < b then b else a) := twoI_e h
theorem rngF_e {vs : List V} {y : V} (h : rngF vs = some y) : (∃ b, vs = [.int b] /\ y = .rng 0 b) \/ ∃ a b, vs = [.int a, .int b] /\ y = .rng a b := by
  unfold rngF at h
  cases q : oneV vs with
  | none => rw [q] at h; exact .inr (twoI_e h)
  | some v =>
    rw [q] at h
    obtain ⟨b, h1, h⟩ := map_e h
    exact .inl ⟨b, by rw [oneV_e q, intV_e h1], h⟩
theorem lstF_e {σ : Hp} {vs : List V} {y : V} (h : lstF σ vs = some y) : ∃ v l, vs = [v] /\ items σ v = some l /\ y = .vls l := by
  obtain ⟨v, h1, h⟩ := bind_e h
  obtain ⟨l, h2, h⟩ := map_e h
  exact ⟨v, l, oneV_e h1, h2, h⟩
noncomputable def primF (σ : Hp) (f : N) (vs : List V) : Option V :=
  match leq f n_len with
  | true => lenF σ vs
  | false => match leq f n_max with
  | true => maxF vs
  | false => match leq f n_range with
  | true => rngF vs
  | false => match leq f n_list with
  | true => lstF σ vs
  | false => Option.none
noncomputable def isPrim (f : N) : Bool := memN [n_len, n_max, n_range, n_list] f
noncomputable def cmpF (σ : Hp) : CmpOp -> V -> V -> Option Bool
  | .Eq, .int a, .int b => some (a == b)
  | .Eq, .str a, .str b => some (leq a b)
  | .NotEq, .str a, .str b => some (!leq a b)
  | .Gt, .int a, .int b => some (decide (b < a))
  | .GtE, .int a, .int b => some (decide (b <= a))
  | .In, .str a, .tup l => match strsOf l with
    | some l' => some (memN l' a)
    | Option.none => Option.none
  | .NotIn, .str a, .tup l => match strsOf l with
    | some l' => some (!memN l' a)
    | Option.none => Option.none
  | .In, .str a, b => match items σ b with
    | some l => match strsOf l with
      | some l' => some (memN l' a)
      | Option.none => Option.none
    | Option.none => Option.none
  | .NotIn, .str a, b => match items σ b with
    | some l => match strsOf l with
      | some l' => some (!memN l' a)
      | Option.none => Option.none
    | Option.none => Option.none
  | _, _, _ => Option.none
noncomputable def eqW (σ : Hp) (a b : V) (Q : Bool -> Prop) : Prop := match frz σ a with
  | some x => match frz σ b with
    | some y => ifB (isDb 8 x) (ifB (isDb 8 y) (Q (veq x y)))
    | Option.none => False
  | Option.none => False
noncomputable def big : V -> Bool
  | .tup _ => true
  | .vls _ => true
  | .lst _ => true
  | _ => false
noncomputable def cmpW (σ : Hp) (op : CmpOp) (a b : V) (Q : V -> Hp -> Prop) : Prop := match big a with
  | true => match op with
    | .Eq => eqW σ a b fun t => Q (.bool t) σ
    | .NotEq => eqW σ a b fun t => Q (.bool (!t)) σ
    | _ => False
  | false => match cmpF σ op a b with
    | some t => Q (.bool t) σ
    | Option.none => False
noncomputable def binW (σ : Hp) (op : Operator) (a b : V) (Q : V -> Hp -> Prop) : Prop := match binop σ op a b with
  | some (.vls l) => ifB (Nat.ble l.length 4096) (Q (.vls l) σ)
  | some v => Q v σ
  | Option.none => False
noncomputable def attrNs : List N := [[115, 111, 117, 114, 99, 101], [97, 104, 101, 97, 100], [104, 97, 115, 104, 101, 100], [116, 111, 107, 101, 110], [97, 116], [107, 105, 110, 100], [118, 97, 108, 117, 101], [116, 111, 107, 101, 110, 115], [112, 108, 97, 99, 101], [112, 97, 114, 116, 101, 100]]
noncomputable def attrO (f : N) : AObj -> Option V
  | .inst ks vs => look ks vs f
  | _ => Option.none
noncomputable def attrG (σ : Hp) (v : V) (f : N) : Option V := match v with
  | .obj _ i => match σ[i]? with
    | some o => attrO f o
    | Option.none => Option.none
  | .ins _ ks vs => look ks vs f
  | _ => Option.none
noncomputable def attrF (σ : Hp) (v : V) (f : N) : Option V := match memN attrNs f with
  | true => attrG σ v f
  | false => Option.none
set_option tactic.hygienic true
theorem attrG_e {σ : Hp} {v x : V} {f : N} (h : attrG σ v f = some x) : (∃ C i ks vs, v = .obj C i /\ σ[i]? = some (.inst ks vs) /\ look ks vs f = some x) \/ ∃ C ks vs, v = .ins C ks vs /\ look ks vs f = some x := by
  cases v
  case obj C i =>
    revert h
    show (match σ[i]? with
      | some o => attrO f o
      | Option.none => Option.none) = _ -> _
    cases q : σ[i]? with
    | none => exact nS
    | some o =>
      cases o
      case inst ks vs => exact fun h => .inl ⟨C, i, ks, vs, rfl, q, h⟩
      all_goals exact nS
  case ins C ks vs => exact .inr ⟨C, ks, vs, rfl, h⟩
  all_goals exact nS h
set_option tactic.hygienic false
theorem attrF_e {σ : Hp} {v x : V} {f : N} (h : attrF σ v f = some x) : memN attrNs f = true /\ attrG σ v f = some x := by
  revert h
  show (match memN attrNs f with
    | true => attrG σ v f
    | false => Option.none) = _ -> _
  cases memN attrNs f
  · exact nS
  · exact fun h => ⟨rfl, h⟩
noncomputable def boolOf (Q : Bool -> Hp -> Prop) (v : V) (σ : Hp) : Prop := oP (fun t => Q t σ) (bolV v)
theorem boolOf_e {Q : Bool -> Hp -> Prop} {v : V} {σ : Hp} (h : boolOf Q v σ) : ∃ t, v = .bool t /\ Q t σ := by
  obtain ⟨t, h1, h⟩ := oP_e h
  exact ⟨t, bolV_e h1, h⟩
noncomputable def selO {α : Type} (o : Option α) (F : α -> Prop) (P : Prop) : Prop := match o with
  | some x => F x
  | Option.none => P
noncomputable def selB (b : Bool) (P R : Prop) : Prop := match b with
  | true => P
  | false => R
theorem sel_n {α : Type} {o : Option α} {F : α -> Prop} {P : Prop} (e : o = Option.none) (h : selO o F P) : P := by subst e; exact h
theorem sel_s {α : Type} {o : Option α} {F : α -> Prop} {P : Prop} {x : α} (e : o = some x) (h : selO o F P) : F x := by subst e; exact h
theorem sel_t {b : Bool} {P R : Prop} (e : b = true) (h : selB b P R) : P := by subst e; exact h
theorem sel_f {b : Bool} {P R : Prop} (e : b = false) (h : selB b P R) : R := by subst e; exact h
noncomputable def isFeed (v : V) : Bool := Nat.beq v.ctorIdx 9
theorem isFeed_e {v : V} (h : isFeed v = true) : v = .feed := V.feed.elim (motive_1 := fun v => v = .feed) v (Nat.eq_of_beq_eq_true h) rfl
noncomputable def succP (F : Nat -> Prop) : Nat -> Prop
  | m + 1 => F m
  | 0 => False
theorem succP_e {F : Nat -> Prop} {n : Nat} (h : succP F n) : ∃ m, n = m + 1 /\ F m := by
  cases n with
  | zero => exact False.elim h
  | succ m => exact ⟨m, rfl, h⟩
noncomputable def nilP {α : Type} (l : List α) (P : Prop) : Prop := match l with
  | [] => P
  | _ :: _ => False
theorem nilP_e {α : Type} {l : List α} {P : Prop} (h : nilP l P) : l = [] /\ P := by
  cases l with
  | nil => exact ⟨rfl, h⟩
  | cons _ _ => exact False.elim h
noncomputable def fPick (vs : List V) (σ : Hp) (Q : V -> Hp -> Prop) : Prop :=
  oP (fun p => ifB (isFeed p.1) (oP (succP fun m => ifB (Nat.ble m 4096) (∀ k : Nat, k < m + 1 -> Q (.int (.ofNat k)) σ)) (natV p.2))) (twoV vs)
noncomputable def fSorted (vs : List V) (σ : Hp) (Q : V -> Hp -> Prop) : Prop :=
  oP (fun v => oP (fun l => oP (fun ss => l.length < 64 /\ ∀ ss' : List N, ss'.Perm ss -> ss'.Pairwise (fun a b => ltN b a = false) -> Q (.vls (ss'.map .str)) σ) (strsOf l)) (items σ v)) (oneV vs)
noncomputable def fRow (n : Nat) (f : N) (vs : List V) (σ : Hp) (Q : V -> Hp -> Prop) : Prop :=
  oP (fun v => oP (fun l => ifB (Nat.ble 4 n) (Q (.obj f σ.length) (σ ++ [.row [] l (.bool false)]))) (vlsV v)) (oneV vs)
noncomputable def asgObj (v : V) (f : N) (ρ : Env) (Q : Env -> Hp -> Prop) (i : Nat) (σ₁ : Hp) : AObj -> Prop
  | .inst ks vs => match memN attrNs f && Nat.ble ks.length 20 with
    | true => Q ρ (σ₁.set i (.inst (putK ks f) (putV ks vs f v)))
    | false => False
  | .row pre rest _ => match leq f n_parted with
    | true => Q ρ (σ₁.set i (.row pre rest v))
    | false => False
  | _ => False
noncomputable def asgAttr (v : V) (f : N) (ρ : Env) (Q : Env -> Hp -> Prop) (w : V) (σ₁ : Hp) : Prop := oP (fun i => oP (asgObj v f ρ Q i σ₁) σ₁[i]?) (objV w)
noncomputable def asgLast (v : V) (ρ : Env) (Q : Env -> Hp -> Prop) (i : Nat) (σ₁ : Hp) : List V -> Prop
  | x :: l => Q ρ (σ₁.set i (.list (setLast (x :: l) v)))
  | [] => False
noncomputable def asgItem (v : V) (ρ : Env) (Q : Env -> Hp -> Prop) (w : V) (σ₁ : Hp) : Prop := oP (fun i => oP (asgLast v ρ Q i σ₁) (lstAt σ₁ i)) (lstV w)
theorem asgAttr_e {v w : V} {f : N} {ρ : Env} {Q : Env -> Hp -> Prop} {σ : Hp} (h : asgAttr v f ρ Q w σ) : ∃ C i o, w = .obj C i /\ σ[i]? = some o /\ asgObj v f ρ Q i σ o := by
  obtain ⟨i, h1, h⟩ := oP_e h
  obtain ⟨o, h2, h3⟩ := oP_e h
  obtain ⟨C, rfl⟩ := objV_e h1
  exact ⟨C, i, o, rfl, h2, h3⟩
theorem asgItem_e {v w : V} {ρ : Env} {Q : Env -> Hp -> Prop} {σ : Hp} (h : asgItem v ρ Q w σ) : ∃ i x l, w = .lst i /\ σ[i]? = some (.list (x :: l)) /\ Q ρ (σ.set i (.list (setLast (x :: l) v))) := by
  obtain ⟨i, h1, h⟩ := oP_e h
  obtain ⟨l, h2, h3⟩ := oP_e h
  obtain rfl := lstV_e h1
  cases l with
  | nil => exact False.elim h3
  | cons x l => exact ⟨i, x, l, rfl, lstAt_e h2, h3⟩
set_option tactic.hygienic true
theorem asgObj_e {v : V} {f : N} {ρ : Env} {Q : Env -> Hp -> Prop} {i : Nat} {σ : Hp} {o : AObj} (h : asgObj v f ρ Q i σ o) : (∃ ks vs, o = .inst ks vs /\ memN attrNs f = true /\ ks.length <= 20 /\ Q ρ (σ.set i (.inst (putK ks f) (putV ks vs f v)))) \/ ∃ pre rest pt, o = .row pre rest pt /\ f = n_parted /\ Q ρ (σ.set i (.row pre rest v)) := by
  cases o
  case inst ks vs =>
    have h : (match memN attrNs f && Nat.ble ks.length 20 with
      | true => Q ρ (σ.set i (.inst (putK ks f) (putV ks vs f v)))
      | false => False) := h
    cases q : memN attrNs f && Nat.ble ks.length 20 with
    | false => rw [q] at h; exact h.elim
    | true =>
      rw [q] at h
      obtain ⟨c1, c2⟩ := Bool.and_eq_true_iff.mp q
      exact .inl ⟨ks, vs, rfl, c1, Nat.le_of_ble_eq_true c2, h⟩
  case row pre rest pt =>
    have h : (match leq f n_parted with
      | true => Q ρ (σ.set i (.row pre rest v))
      | false => False) := h
    cases q : leq f n_parted with
    | false => rw [q] at h; exact h.elim
    | true => rw [q] at h; exact .inr ⟨pre, rest, pt, rfl, leq_e q, h⟩
  all_goals exact False.elim h
noncomputable def sdV (e : V) : Option (List N × List V) := if h : e.ctorIdx = 11 then V.sdct.elim (motive_1 := fun _ => Option (List N × List V)) e h (fun ks vs => some (ks, vs)) else none
set_option tactic.hygienic false
theorem sdV_e {v : V} {x : List N × List V} (h : sdV v = some x) : v = .sdct x.1 x.2 := by
  by_cases q : v.ctorIdx = 11
  · revert h
    exact V.sdct.elim (motive_1 := fun v => sdV v = some x -> v = .sdct x.1 x.2) v q (fun ks vs h => congrArg (fun x : List N × List V => V.sdct x.1 x.2) (Option.some.inj h))
  · exact nS ((dif_neg q).symm.trans h)
noncomputable def atO (k : Int) (l : List V) : Option V := at? l k
noncomputable def itemF (σ : Hp) (o i : V) : Option V := match intV i with
  | some k => (seqOf σ o).bind (atO k)
  | Option.none => (strV i).bind fun s => (sdV o).bind fun x => look x.1 x.2 s
theorem itemF_e {σ : Hp} {o i x : V} (h : itemF σ o i = some x) : (∃ k l, i = .int k /\ (o = .tup l \/ items σ o = some l) /\ 0 <= k /\ l[k.toNat]? = some x) \/ ∃ s ks vs, i = .str s /\ o = .sdct ks vs /\ look ks vs s = some x := by
  unfold itemF at h
  cases q : intV i with
  | some k =>
    rw [q] at h
    obtain ⟨l, h1, h⟩ := bind_e (f := atO k) h
    exact .inl ⟨k, l, intV_e q, seqOf_e h1, at_get h⟩
  | none =>
    rw [q] at h
    obtain ⟨s, h1, h⟩ := bind_e h
    obtain ⟨y, h2, h⟩ := bind_e h
    exact .inr ⟨s, y.1, y.2, strV_e h1, sdV_e h2, h⟩
noncomputable def sliceL (σ : Hp) (l : List V) (lo hi : V) (Q : V -> Hp -> Prop) : Prop := match isNone lo with
  | true => match natV hi with
    | some n => ifB (Nat.ble n l.length) (Q (.vls (l.take n)) σ)
    | Option.none => False
  | false => match natV lo with
    | some n => match isNone hi with
      | true => ifB (Nat.ble n l.length) (Q (.vls (l.drop n)) σ)
      | false => False
    | Option.none => False
noncomputable def sliceW (σ : Hp) (o lo hi : V) (Q : V -> Hp -> Prop) : Prop := match items σ o with
  | some l => sliceL σ l lo hi Q
  | Option.none => False
theorem sliceL_e {σ : Hp} {l : List V} {lo hi : V} {Q : V -> Hp -> Prop} (h : sliceL σ l lo hi Q) : (∃ n, lo = .none /\ hi = .int (.ofNat n) /\ n <= l.length /\ Q (.vls (l.take n)) σ) \/ ∃ n, lo = .int (.ofNat n) /\ hi = .none /\ n <= l.length /\ Q (.vls (l.drop n)) σ := by
  unfold sliceL at h
  cases q : isNone lo with
  | true =>
    rw [q] at h
    cases q2 : natV hi with
    | none => rw [q2] at h; exact h.elim
    | some n => rw [q2] at h; exact .inl ⟨n, isNone_e q, natV_e q2, ifB_ble h⟩
  | false =>
    rw [q] at h
    cases q2 : natV lo with
    | none => rw [q2] at h; exact h.elim
    | some n =>
      rw [q2] at h
      cases q3 : isNone hi with
      | false => rw [q3] at h; exact h.elim
      | true => rw [q3] at h; exact .inr ⟨n, natV_e q2, isNone_e q3, ifB_ble h⟩
theorem sliceW_e {σ : Hp} {o lo hi : V} {Q : V -> Hp -> Prop} (h : sliceW σ o lo hi Q) : ∃ l, items σ o = some l /\ sliceL σ l lo hi Q := by
  unfold sliceW at h
  cases q : items σ o with
  | none => rw [q] at h; exact h.elim
  | some l => rw [q] at h; exact ⟨l, rfl, h⟩
noncomputable def handBack (σ σ' : Hp) (v : V) (Q : V -> Hp -> Prop) : Prop := match σ with
  | [] => oP (fun w => ifB (isDb 8 w) (Q w [])) (frz σ' v)
  | _ :: _ => Q v σ'
noncomputable def fits (vs : List V) (P : Prop) : Prop := match Nat.ble vs.length 64 with
  | true => P
  | false => False
section
variable (T : Tab)
noncomputable def isMut (fn x : N) : Bool := match find T.muts fn with
  | some l => memN l x
  | Option.none => false
noncomputable def known (f : N) : Bool := match find T.fns f with
  | some _ => true
  | Option.none => match leq f n_pick with
    | true => true
    | false => match leq f n_sorted with
      | true => true
      | false => match isPrim f with
        | true => true
        | false => match find T.simple f with
          | some _ => true
          | Option.none => match find T.cls f with
            | some _ => true
            | Option.none => match find T.orcs f with
              | some _ => true
              | Option.none => false
noncomputable def instO : AObj -> Option (List N)
  | .inst ks _ => some ks
  | _ => Option.none
noncomputable def isRowO : AObj -> Bool
  | .row _ _ _ => true
  | _ => false
noncomputable def instAt (σ : Hp) (i : Nat) : Option (List N) := match σ[i]? with
  | some o => instO o
  | Option.none => Option.none
noncomputable def rowAt (σ : Hp) (i : Nat) : Bool := match σ[i]? with
  | some o => isRowO o
  | Option.none => false
set_option tactic.hygienic true
theorem instAt_e {σ : Hp} {i : Nat} {ks : List N} (h : instAt σ i = some ks) : ∃ vs, σ[i]? = some (.inst ks vs) := by
  unfold instAt at h
  cases q : σ[i]? with
  | none => rw [q] at h; exact nS h
  | some o =>
    rw [q] at h
    cases o
    case inst k vs => exact ⟨vs, congrArg (fun k => some (AObj.inst k vs)) (Option.some.inj h)⟩
    all_goals exact nS h
theorem rowAt_e {σ : Hp} {i : Nat} (h : rowAt σ i = true) : ∃ pre rest pt, σ[i]? = some (.row pre rest pt) := by
  unfold rowAt at h
  cases q : σ[i]? with
  | none => rw [q] at h; exact tF h
  | some o =>
    rw [q] at h
    cases o
    case row pre rest pt => exact ⟨pre, rest, pt, rfl⟩
    all_goals exact tF h
noncomputable def nextL (pre rest : List V) (pt : V) (i : Nat) (σ : Hp) (Q : V -> Hp -> Prop) : Prop := match rest with
  | [] => Q (.ins n_Token [n_kind, n_value, n_at] [.str n_eof, .str [], .int (-1)]) σ
  | t :: r => Q t (σ.set i (.row (pre ++ [t]) r pt))
noncomputable def nextO (i : Nat) (σ : Hp) (Q : V -> Hp -> Prop) : AObj -> Prop
  | .row pre rest pt => nextL pre rest pt i σ Q
  | _ => False
theorem nextO_e {i : Nat} {σ : Hp} {Q : V -> Hp -> Prop} {o : AObj} (h : nextO i σ Q o) : ∃ pre rest pt, o = .row pre rest pt /\ nextL pre rest pt i σ Q := by
  cases o
  case row pre rest pt => exact ⟨pre, rest, pt, rfl, h⟩
  all_goals exact False.elim h
noncomputable def mNext (n i : Nat) (vs : List V) (σ : Hp) (Q : V -> Hp -> Prop) : Prop := ifB (Nat.ble 20 n) (nilP vs (oP (nextO i σ Q) σ[i]?))
noncomputable def mApp (i : Nat) (vs : List V) (σ : Hp) (Q : V -> Hp -> Prop) : Prop :=
  oP (fun w => oP (fun l => ifB (Nat.blt l.length 4096) (Q .none (σ.set i (.list (l ++ [w]))))) (lstAt σ i)) (oneV vs)
noncomputable def getO (c : Option V) (d : V) (σ : Hp) (Q : V -> Hp -> Prop) : Prop := match c with
  | some c => Q c σ
  | Option.none => Q d σ
noncomputable def getS (c : Option N) (d : V) (σ : Hp) (Q : V -> Hp -> Prop) : Prop := match c with
  | some c => Q (.str c) σ
  | Option.none => Q d σ
noncomputable def mDget (l : List (N × N × N)) (vs : List V) (σ : Hp) (Q : V -> Hp -> Prop) : Prop :=
  oP (fun p => oP (fun k => oP (fun q => oP (fun a => oP (fun b => oP (fun d => getS (look3 l a b) (.str d) σ Q) (strV p.2)) (strV q.2)) (strV q.1)) (twoV k)) (tupV p.1)) (twoV vs)
noncomputable def mSget (ks : List N) (ws : List V) (vs : List V) (σ : Hp) (Q : V -> Hp -> Prop) : Prop :=
  oP (fun p => oP (fun a => oP (fun d => getO (look ks ws a) (.str d) σ Q) (strV p.2)) (strV p.1)) (twoV vs)
noncomputable def knownM (σ : Hp) (v : V) (f : N) : Bool := match v with
  | .obj C i => match leq C n_TokenRow with
    | true => match rowAt σ i with
      | true => leq f n_next_token
      | false => false
    | false => match instAt σ i with
      | some ks => match memN ks f with
        | false => match find T.cls C with
          | some ms => match find ms f with
            | some _ => true
            | Option.none => false
          | Option.none => false
        | true => false
      | Option.none => false
  | .lst i => match leq f n_append with
    | true => match lstAt σ i with
      | some _ => true
      | Option.none => false
    | false => false
  | .dct _ => leq f n_get
  | .sdct _ _ => leq f n_get
  | _ => false
mutual
noncomputable def evE : Nat -> PySem.Expr -> Env -> Hp -> (V -> Hp -> Prop) -> (List V -> Hp -> Prop) -> Prop
  | 0, _, _, _, _, _ => False
  | n + 1, e, ρ, σ, Q, X => match e with
    | .Constant c _ _ => oP (fun v => Q v σ) (cV c)
    | .Name x _ => oP (fun v => Q v σ) (look ρ.ks ρ.vs x.cps.toList)
    | .BinOp l op r _ => evE n l ρ σ (fun a σ₁ => evE n r ρ σ₁ (fun b σ₂ => binW σ₂ op a b Q) X) X
    | .UnaryOp op x _ => oP (fun i => Q (.int (-i)) σ) (usubI op x)
    | .BoolOp op es _ => evBool n op es ρ σ Q X
    | .IfExp c a b _ => evB n c ρ σ (fun t σ₁ => match t with
      | true => evE n a ρ σ₁ Q X
      | false => evE n b ρ σ₁ Q X) X
    | .Compare l ops rs _ => oP (fun p => selB (isSet p.2) False (evE n l ρ σ (fun a σ₁ => evE n p.2 ρ σ₁ (fun b σ₂ => cmpW σ₂ p.1 a b Q) X) X)) (cmp1 ops rs)
    | .Tuple es _ _ => ifB (noStar es) (evEs n es ρ σ (fun vs σ₁ => fits vs (Q (.tup vs) σ₁)) X)
    | .List es _ => ifB (noStar es) (evEs n es ρ σ (fun vs σ₁ => fits vs (Q (.vls vs) σ₁)) X)
    | .Dict ks es _ => oP (fun ns => oP (fun vs => ifB (dctOk ns vs) (Q (.sdct ns vs) σ)) (consts es)) (keyStrs ks)
    | .Attribute o f _ => ifB (baseOk o) (evE n o ρ σ (fun v σ₁ => oP (fun r => Q r σ₁) (attrF σ₁ v f.cps.toList)) X)
    | .Subscript o i _ => selO (sliceOf i) (oP fun p => evE n o ρ σ (fun v σ₁ => evO n p.1 ρ σ₁ (fun a σ₂ => evO n p.2 ρ σ₂ (fun b σ₃ => sliceW σ₃ v a b Q) X) X) X)
      (evE n o ρ σ (fun v σ₁ => evE n i ρ σ₁ (fun k σ₂ => oP (fun r => Q r σ₂) (itemF σ₂ v k)) X) X)
    | .ListComp elt gs scope _ => oP (fun p => ifB (isFun scope.kind && scpOk scope.names && scpOnce scope.names && allFine (freeK scope.names) && noLoc ρ.sc (freeK scope.names)) (nilP σ
      (oP (fun tks => ifB (allLoc scope.names tks && nodupN tks) (oP (fun fvs => evE n p.2 ρ [] (fun w σ₁ => nilP σ₁ (oP (fun l =>
        compL (fun v K => oP (fun tvs => ifB (Nat.beq tks.length tvs.length) (evE n elt ⟨ρ.fn, scope.names, tks ++ freeK scope.names, tvs ++ fvs⟩ [] (fun y σ' => nilP σ' (K y)) (fun _ _ => False))) (tvals p.1 v))
          l [] (fun ys => Q (.vls ys) [])) (forItems [] w))) X) (freeV ρ.ks ρ.vs (freeK scope.names)))) (tgts p.1)))) (gen1 gs)
    | .Call f es ks cp => nilP ks (match f with
      | .Name f _ => ifB (isGlb ρ.sc f.cps.toList) (ifB (noStar es) (ifB (consB es) (ifB (known T f.cps.toList) (evEs n es ρ σ (fun vs σ₁ => evF n f.cps.toList vs σ₁ Q X) X))))
      | .Attribute o f ap => ifB (baseOk o) (ifB (noStar es) (ifB (Nat.blt es.length 29) (ifB (Nat.beq ap.endLine cp.line)
        (evE n o ρ σ (fun v σ₁ => ifB (knownM T σ₁ v f.cps.toList) (evEs n es ρ σ₁ (fun vs σ₂ => evM n v f.cps.toList vs σ₂ Q X) X)) X))))
      | _ => False)
    | _ => False
noncomputable def evO : Nat -> Option PySem.Expr -> Env -> Hp -> (V -> Hp -> Prop) -> (List V -> Hp -> Prop) -> Prop
  | 0, _, _, _, _, _ => False
  | n + 1, Option.none, ρ, σ, Q, X => Q .none σ
  | n + 1, some e, ρ, σ, Q, X => evE n e ρ σ Q X
noncomputable def evEs : Nat -> List PySem.Expr -> Env -> Hp -> (List V -> Hp -> Prop) -> (List V -> Hp -> Prop) -> Prop
  | 0, _, _, _, _, _ => False
  | n + 1, [], ρ, σ, Q, X => Q [] σ
  | n + 1, e :: es, ρ, σ, Q, X => evE n e ρ σ (fun v σ₁ => evEs n es ρ σ₁ (fun vs σ₂ => Q (v :: vs) σ₂) X) X
noncomputable def evBool : Nat -> BoolOp -> List PySem.Expr -> Env -> Hp -> (V -> Hp -> Prop) -> (List V -> Hp -> Prop) -> Prop
  | 0, _, _, _, _, _, _ => False
  | n + 1, op, es, ρ, σ, Q, X => match es with
    | [] => False
    | [e] => evE n e ρ σ Q X
    | e :: e' :: r => evE n e ρ σ (boolOf fun t σ₁ => match op with
      | .And => match t with
        | true => evBool n .And (e' :: r) ρ σ₁ Q X
        | false => Q (.bool false) σ₁
      | .Or => match t with
        | true => Q (.bool true) σ₁
        | false => evBool n .Or (e' :: r) ρ σ₁ Q X) X
noncomputable def evB : Nat -> PySem.Expr -> Env -> Hp -> (Bool -> Hp -> Prop) -> (List V -> Hp -> Prop) -> Prop
  | 0, _, _, _, _, _ => False
  | n + 1, e, ρ, σ, Q, X => match e with
    | .UnaryOp .Not x _ => evB n x ρ σ (fun t σ₁ => Q (!t) σ₁) X
    | .BoolOp op es _ => evBs n op es ρ σ Q X
    | .IfExp _ _ _ _ => False
    | e => evE n e ρ σ (boolOf Q) X
noncomputable def evBs : Nat -> BoolOp -> List PySem.Expr -> Env -> Hp -> (Bool -> Hp -> Prop) -> (List V -> Hp -> Prop) -> Prop
  | 0, _, _, _, _, _, _ => False
  | n + 1, op, es, ρ, σ, Q, X => match es with
    | [] => match op with
      | .And => Q true σ
      | .Or => Q false σ
    | e :: r => evB n e ρ σ (fun t σ₁ => match op with
      | .And => match t with
        | true => evBs n .And r ρ σ₁ Q X
        | false => Q false σ₁
      | .Or => match t with
        | true => Q true σ₁
        | false => evBs n .Or r ρ σ₁ Q X) X
noncomputable def evF : Nat -> N -> List V -> Hp -> (V -> Hp -> Prop) -> (List V -> Hp -> Prop) -> Prop
  | 0, _, _, _, _, _ => False
  | n + 1, f, vs, σ, Q, X => selO (find T.fns f) (fun fn => evD n fn vs σ (fun v σ' => handBack σ σ' v Q) X)
    (selB (leq f n_pick) (fPick vs σ Q) (selB (leq f n_sorted) (fSorted vs σ Q) (selB (isPrim f) (oP (fun v => Q v σ) (primF σ f vs))
    (selO (find T.simple f) (fun ks => ifB (Nat.beq ks.length vs.length) (ifB (Nat.ble 4 n) (Q (.ins f ks vs) σ)))
    (selO (find T.cls f) (fun ms => oP (fun fn => selB (leq f n_TokenRow) (fRow n f vs σ Q)
      (evD n fn (.obj f σ.length :: vs) (σ ++ [.inst [] []]) (noneK fun σ' => Q (.obj f σ.length) σ') (fun _ _ => False))) (find ms n_init))
    (oP (fun t => ifB (Nat.ble 300 n) (nilP σ (t vs (fun v => Q v [])))) (find T.orcs f)))))))
noncomputable def evD : Nat -> Fn -> List V -> Hp -> (V -> Hp -> Prop) -> (List V -> Hp -> Prop) -> Prop
  | 0, _, _, _, _, _ => False
  | n + 1, fn, vs, σ, Q, X => match bindA fn.params vs fn.dflt with
    | some bs => evSs n fn.body ⟨fn.nm, fn.sc, fn.params, bs⟩ σ (fun fl _ σ' => match fl with
      | .ret v => Q v σ'
      | .next => Q .none σ'
      | _ => False) X
    | Option.none => False
noncomputable def evM : Nat -> V -> N -> List V -> Hp -> (V -> Hp -> Prop) -> (List V -> Hp -> Prop) -> Prop
  | 0, _, _, _, _, _, _ => False
  | n + 1, v, f, vs, σ, Q, X => match v with
    | .obj C i => selB (leq C n_TokenRow) (ifB (leq f n_next_token) (mNext n i vs σ Q))
      (oP (fun ks => selB (memN ks f) False (oP (fun ms => oP (fun fn => evD n fn (.obj C i :: vs) σ Q X) (find ms f)) (find T.cls C))) (instAt σ i))
    | .lst i => ifB (leq f n_append) (mApp i vs σ Q)
    | .dct l => ifB (leq f n_get) (mDget l vs σ Q)
    | .sdct ks ws => ifB (leq f n_get) (mSget ks ws vs σ Q)
    | _ => False
noncomputable def evA : Nat -> PySem.Expr -> V -> Env -> Hp -> (Env -> Hp -> Prop) -> (List V -> Hp -> Prop) -> Prop
  | 0, _, _, _, _, _, _ => False
  | n + 1, t, v, ρ, σ, Q, X => match t with
    | .Name x _ => ifB (isLoc ρ.sc x.cps.toList) (Q (ρ.put x.cps.toList v) σ)
    | .Tuple ts _ _ => oP (fun xs => oP (fun l => oP (fun ρ' => Q ρ' σ) (putAll ρ xs l)) (tupV v)) (names ts)
    | .Attribute o f _ => evE n o ρ σ (asgAttr v f.cps.toList ρ Q) X
    | .Subscript o i _ => ifB (neg1 i) (evE n o ρ σ (asgItem v ρ Q) X)
    | _ => False
noncomputable def evS : Nat -> Stmt -> Env -> Hp -> (Fl -> Env -> Hp -> Prop) -> (List V -> Hp -> Prop) -> Prop
  | 0, _, _, _, _, _ => False
  | n + 1, s, ρ, σ, Q, X => match s with
    | .Expr e _ => selB (isComp e) False (evE n e ρ σ (fun _ σ₁ => Q .next ρ σ₁) X)
    | .Assign ts v _ => oP (fun t => selO (listTo t v) (fun p => ifB (isLoc ρ.sc p.1.cps.toList) (ifB (noStar p.2) (match isMut T ρ.fn p.1.cps.toList with
        | true => evEs n p.2 ρ σ (fun vs σ₁ => fits vs (Q .next (ρ.put p.1.cps.toList (.lst σ₁.length)) (σ₁ ++ [.list vs]))) X
        | false => evEs n p.2 ρ σ (fun vs σ₁ => fits vs (Q .next (ρ.put p.1.cps.toList (.vls vs)) σ₁)) X)))
      (ifB (plain1 t) (selB (isComp v) False (ifB (okSwap t v) (evE n v ρ σ (fun v σ₁ => evA n t v ρ σ₁ (fun ρ₂ σ₂ => Q .next ρ₂ σ₂) X) X))))) (one1 ts)
    | .If c a b _ => evB n c ρ σ (fun t σ₁ => match t with
      | true => evSs n a ρ σ₁ Q X
      | false => evSs n b ρ σ₁ Q X) X
    | .Return e _ => oP (fun e => evE n e ρ σ (fun v σ₁ => Q (.ret v) ρ σ₁) X) e
    | .While c b els _ => nilP els (∃ I : Nat -> Env -> Hp -> Prop, (∃ k, I k ρ σ) /\ ∀ k ρ σ, I k ρ σ ->
        evB n c ρ σ (fun t σ₁ => match t with
          | true => evSs n b ρ σ₁ (fun f ρ₂ σ₂ => match f with
            | .next => ∃ k', k' < k /\ I k' ρ₂ σ₂
            | .cont => ∃ k', k' < k /\ I k' ρ₂ σ₂
            | .brk => Q .next ρ₂ σ₂
            | .ret v => Q (.ret v) ρ₂ σ₂) X
          | false => Q .next ρ σ₁) X)
    | .For t it b els _ => nilP els (evE n it ρ σ (fun w σ₁ => oP (fun l => forL (fun v ρ' σ' Q' => evA n t v ρ' σ' (fun ρ₂ σ₂ => evSs n b ρ₂ σ₂ Q' X) X) Q l ρ σ₁) (forItems σ₁ w)) X)
    | .Raise a b _ => oP (fun p => ifB (isGlb ρ.sc p.1) (ifB (leq p.1 n_src) (ifB (Nat.beq p.2.length 3) (ifB (noStar p.2) (ifB (Nat.ble 4 n) (evEs n p.2 ρ σ (fun vs σ₁ => ifB (Nat.beq vs.length 3) (X vs σ₁)) X)))))) (raiseOf a b)
    | _ => False
noncomputable def evSs : Nat -> List Stmt -> Env -> Hp -> (Fl -> Env -> Hp -> Prop) -> (List V -> Hp -> Prop) -> Prop
  | 0, _, _, _, _, _ => False
  | n + 1, [], ρ, σ, Q, X => Q .next ρ σ
  | n + 1, s :: r, ρ, σ, Q, X => evS n s ρ σ (fun f ρ₁ σ₁ => match f with
    | .next => evSs n r ρ₁ σ₁ Q X
    | .brk => Q .brk ρ₁ σ₁
    | .cont => Q .cont ρ₁ σ₁
    | .ret v => Q (.ret v) ρ₁ σ₁) X
end
end
end Mine
end

section
open PySem
namespace Mine
noncomputable def normS (s : Str) : Str := ⟨⟨s.cps.toList⟩⟩
noncomputable def dfl : List PySem.Expr -> List V
  | [] => []
  | .Constant c _ _ :: r => match cV c with
    | some v => v :: dfl r
    | Option.none => dfl r
  | _ :: r => dfl r
noncomputable def mkFn (name : Str) (a : PySem.Arguments) (body : List Stmt) (sc : Scope) : Fn := match a with
  | ⟨_, ps, _, _, _, _, d⟩ => ⟨name.cps.toList, sc.names, ps.map (fun (p : PySem.Arg) => match p with | ⟨x, _, _⟩ => x.cps.toList), dfl d, body⟩
noncomputable def fnsOf : List Stmt -> List (N × Fn)
  | [] => []
  | .FunctionDef name args body _ _ _ sc _ _ _ :: r => (name.cps.toList, mkFn name args body sc) :: fnsOf r
  | _ :: r => fnsOf r
noncomputable def clsOf : List Stmt -> List (N × List (N × Fn))
  | [] => []
  | .ClassDef name _ _ body _ _ _ _ _ _ _ :: r => (name.cps.toList, fnsOf body) :: clsOf r
  | _ :: r => clsOf r
noncomputable def fnNames (p : Program) : List N := (fnsOf p.main.body).map (·.1)
end Mine
end

section
open PySem PyProof.Rows
namespace Mine
noncomputable def keepN {α : Type} (ns : List N) : List (N × α) -> List (N × α)
  | [] => []
  | (k, a) :: r => match memN ns k with
    | true => (k, a) :: keepN ns r
    | false => keepN ns r
noncomputable def fnNs : List N := [[97, 110, 115, 105, 95, 112, 111, 114, 116, 115], [112, 111, 114, 116, 95, 100, 101, 99, 108, 97, 114, 97, 116, 105, 111, 110, 115], [105, 110, 105, 116, 105, 97, 108, 95, 99, 111, 100, 101], [108, 101, 118, 101, 108, 95, 99, 111, 100, 101, 115], [95, 108, 97, 119, 95, 102, 105, 103, 117, 114, 101], [95, 108, 97, 119, 95, 108, 105, 115, 116, 101, 100], [95, 108, 97, 119, 95, 98, 114, 97, 99, 107, 101, 116, 101, 100], [95, 108, 97, 119, 95, 115, 112, 111, 105, 108, 101, 100], [95, 108, 97, 119, 95, 119, 111, 114, 100], [95, 108, 97, 119, 95, 100, 117, 101]]
noncomputable def clsNs : List N := [[84, 111, 107, 101, 110, 82, 111, 119], [67, 117, 114, 115, 111, 114]]
noncomputable def simpleT : List (N × List N) := [([84, 111, 107, 101, 110], [[107, 105, 110, 100], [118, 97, 108, 117, 101], [97, 116]])]
noncomputable def mutsT : List (N × List N) := [([95, 108, 97, 119, 95, 108, 105, 115, 116, 101, 100], [[114, 111, 119], [105, 110, 115]]), ([95, 108, 97, 119, 95, 98, 114, 97, 99, 107, 101, 116, 101, 100], [[114, 111, 119]]), ([95, 108, 97, 119, 95, 100, 117, 101], [[110, 97, 109, 101, 115]]), ([112, 111, 114, 116, 95, 100, 101, 99, 108, 97, 114, 97, 116, 105, 111, 110, 115], [[100, 101, 99, 108, 97, 114, 101, 100]]), ([97, 110, 115, 105, 95, 112, 111, 114, 116, 115], [[112, 111, 114, 116, 115]])]
noncomputable def curNs : List N := [[95, 95, 105, 110, 105, 116, 95, 95], [102, 101, 116, 99, 104], [116, 97, 107, 101], [105, 115, 95, 111, 112], [105, 115, 95, 107, 101, 121], [97, 99, 99, 101, 112, 116, 95, 111, 112], [97, 99, 99, 101, 112, 116, 95, 107, 101, 121], [101, 120, 112, 101, 99, 116, 95, 111, 112], [101, 120, 112, 101, 99, 116, 95, 107, 101, 121], [101, 120, 112, 101, 99, 116, 95, 105, 100], [102, 97, 105, 108]]
noncomputable def keepM : List (N × List (N × Fn)) -> List (N × List (N × Fn))
  | [] => []
  | (k, l) :: r => (k, keepN curNs l) :: keepM r
noncomputable def T0 : Tab := ⟨keepN fnNs (fnsOf pw_sj0033_01.main.body), keepM (keepN clsNs (clsOf pw_sj0033_01.main.body)), simpleT, mutsT, []⟩
end Mine
end

section
open PySem PySem.W PyProof.Rows
namespace Mine
noncomputable abbrev Led := List (Addr × Obj)
noncomputable abbrev tupObj (vs : List Value) (n : Nat) : Obj := { cls := .type "tuple", data := .seq vs.toArray n }
noncomputable abbrev rngObj (lo hi : Int) (t u v : Tok) : Obj := { cls := .type "range", data := .fields #[.int lo t, .int hi u, .int 1 v] }
noncomputable abbrev ClsAt := N -> Option Addr
noncomputable abbrev lineL : Nat := 4096
noncomputable def flatD : V -> Option PyData
  | .str s => some (.str ⟨s.toArray⟩)
  | .int i => some (.int i)
  | _ => Option.none
noncomputable def pairD (k : N) : Option PyData -> Option (PyData × PyData)
  | some d => some (.str ⟨k.toArray⟩, d)
  | Option.none => Option.none
noncomputable def flatP : List N -> List V -> Option (List (PyData × PyData))
  | [], [] => some []
  | k :: ks, v :: vs => consO (pairD k (flatD v)) (flatP ks vs)
  | _, _ => Option.none
set_option tactic.hygienic false
theorem pairD_e {k : N} {o : Option PyData} {p : PyData × PyData} (h : pairD k o = some p) : ∃ d, o = some d /\ p = (.str ⟨k.toArray⟩, d) := by
  cases o with
  | none => cases h
  | some d => exact ⟨d, rfl, (Option.some.inj h).symm⟩
theorem flatP_e {k : N} {ks : List N} {v : V} {vs : List V} {D : List (PyData × PyData)} (h : flatP (k :: ks) (v :: vs) = some D) : ∃ d r, flatD v = some d /\ flatP ks vs = some r /\ D = (.str ⟨k.toArray⟩, d) :: r := by
  obtain ⟨_, r, h1, h2, rfl⟩ := consO_e h
  obtain ⟨d, h3, rfl⟩ := pairD_e h1
  exact ⟨d, r, h3, h2, rfl⟩
theorem flatP_cons {k : N} {ks : List N} {v : V} {vs : List V} {d : PyData} {r : List (PyData × PyData)} (h1 : flatP ks vs = some r) (h2 : flatD v = some d) : flatP (k :: ks) (v :: vs) = some ((.str ⟨k.toArray⟩, d) :: r) := by
  show consO (pairD k (flatD v)) (flatP ks vs) = _
  rw [h1, h2]; rfl
theorem look_t {k x : N} {ks : List N} {v : V} {vs : List V} (h : leq k x = true) : look (k :: ks) (v :: vs) x = some v := by
  show (match leq k x with | true => some v | false => look ks vs x) = _
  rw [h]
theorem look_f {k x : N} {ks : List N} {v : V} {vs : List V} (h : leq k x = false) : look (k :: ks) (v :: vs) x = look ks vs x := by
  show (match leq k x with | true => some v | false => look ks vs x) = _
  rw [h]
theorem look_e {k x : N} {ks : List N} {v : V} {vs : List V} {y : V} (h : look (k :: ks) (v :: vs) x = some y) : (leq k x = true /\ v = y) \/ (leq k x = false /\ look ks vs x = some y) := by
  cases q : leq k x with
  | true => rw [look_t q] at h; exact .inl ⟨rfl, Option.some.inj h⟩
  | false => rw [look_f q] at h; exact .inr ⟨rfl, h⟩
structure Fix where
  sd : Obj -> List N -> List V -> Prop
  td : Led -> Addr -> List (N × N × N) -> Prop
  pin : Led
section
variable (CA : ClsAt) (FX : Fix) (news : Led) (φ H : List Addr)
noncomputable def Off (a : Addr) : Prop := a ∉ φ /\ a ∉ H
mutual
inductive VR : Value -> V -> Prop
  | none : VR .none .none
  | bool (b : Bool) : VR (.bool b) (.bool b)
  | int (i : Int) (t : Tok) : VR (.int i t) (.int i)
  | str (x : Str) (t : Tok) (l : N) : x.cps.toList = l -> okS l = true -> VR (.str x t) (.str l)
  | tup {a : Addr} {vs : List Value} {n : Nat} {l : List V} : (a, tupObj vs n) ∈ news -> Off φ H a -> VRs vs l -> l.length <= lineL -> VR (.ref a) (.tup l)
  | vls {a : Addr} {vs : List Value} {n : Nat} {l : List V} : (a, listOf vs.toArray n) ∈ news -> Off φ H a -> VRs vs l -> l.length <= lineL -> VR (.ref a) (.vls l)
  | lst {a : Addr} {i : Nat} : φ[i]? = some a -> VR (.ref a) (.lst i)
  | obj {a C d : Addr} {c : N} {i : Nat} : CA c = some C -> (a, instObj C d) ∈ news -> Off φ H a -> φ[i]? = some d -> VR (.ref a) (.obj c i)
  | ins {a C d : Addr} {c : N} {ks : List N} {l : List V} {es : List DictEntry} {n : Nat} : CA c = some C -> (a, instObj C d) ∈ news -> Off φ H a ->
      (d, dictOf es n) ∈ news -> Off φ H d -> VFs es ks l -> VR (.ref a) (.ins c ks l)
  | feed {a : Addr} : H[0]? = some a -> VR (.ref a) .feed
  | rng {a : Addr} {lo hi : Int} {t u v : Tok} : (a, rngObj lo hi t u v) ∈ news -> Off φ H a -> VR (.ref a) (.rng lo hi)
  | sdct {a : Addr} {o : Obj} {ks : List N} {l : List V} : (a, o) ∈ news -> Off φ H a -> FX.sd o ks l -> (a == sysModules) = false -> VR (.ref a) (.sdct ks l)
  | dct {a : Addr} {nw : Led} {l : List (N × N × N)} : (∀ p ∈ nw, p ∈ news /\ Off φ H p.1) -> FX.td nw a l -> VR (.ref a) (.dct l)
inductive VRs : List Value -> List V -> Prop
  | nil : VRs [] []
  | cons {v : Value} {vs : List Value} {x : V} {l : List V} : VR v x -> VRs vs l -> VRs (v :: vs) (x :: l)
inductive VFs : List DictEntry -> List N -> List V -> Prop
  | nil : VFs [] [] []
  | cons {h : Int} {s : Str} {t : Tok} {v : Value} {es : List DictEntry} {k : N} {x : V} {ks : List N} {l : List V} :
      s.cps.toList = k -> VR v x -> VFs es ks l -> VFs (⟨h, .str s t, v⟩ :: es) (k :: ks) (x :: l)
end
end
structure Ext (H : List Addr) (news : Led) (φ : List Addr) (news' : Led) (φ' : List Addr) : Prop where
  pre : ∃ ψ, φ' = φ ++ ψ
  keep : ∀ p ∈ news, p.1 ∉ φ -> p.1 ∉ H -> p ∈ news' /\ p.1 ∉ φ'
theorem Ext.refl (H : List Addr) (news : Led) (φ : List Addr) : Ext H news φ news φ := ⟨⟨[], by simp⟩, fun p hp h1 _ => ⟨hp, h1⟩⟩
theorem Ext.trans {H : List Addr} {n₁ n₂ n₃ : Led} {φ₁ φ₂ φ₃ : List Addr} (a : Ext H n₁ φ₁ n₂ φ₂) (b : Ext H n₂ φ₂ n₃ φ₃) : Ext H n₁ φ₁ n₃ φ₃ := by
  obtain ⟨⟨ψ, rfl⟩, k⟩ := a
  obtain ⟨⟨χ, rfl⟩, k'⟩ := b
  refine ⟨⟨ψ ++ χ, by simp⟩, fun p hp h1 h2 => ?_⟩
  obtain ⟨q1, q2⟩ := k p hp h1 h2
  exact k' p q1 q2 h2
theorem Ext.at {H : List Addr} {n₁ n₂ : Led} {φ₁ φ₂ : List Addr} (a : Ext H n₁ φ₁ n₂ φ₂) {i : Nat} {x : Addr} (h : φ₁[i]? = some x) : φ₂[i]? = some x := by
  obtain ⟨⟨ψ, rfl⟩, _⟩ := a
  rw [List.getElem?_append_left (by have := (List.getElem?_eq_some_iff.mp h).1; exact this)]
  exact h
structure Re0 (ok : Obj -> Prop) (FX FX' : Fix) (news news' : Led) (φ φ' H H' : List Addr) : Prop where
  sd : ∀ o ks l, FX.sd o ks l -> ok o /\ FX'.sd o ks l
  td : ∀ nw a l, FX.td nw a l -> (∀ p ∈ nw, ok p.2) /\ FX'.td nw a l
  at_ : ∀ (i : Nat) (a : Addr), φ[i]? = some a -> φ'[i]? = some a
  off : ∀ p ∈ news, ok p.2 -> Off φ H p.1 -> p ∈ news' /\ Off φ' H' p.1
  hd : ∀ a, H[0]? = some a -> H'[0]? = some a
  ty : ∀ (o : Obj) (n : String), o.cls = .type n -> n ≠ "list_iterator" -> n ≠ "range_iterator" -> ok o
  rf : ∀ (o : Obj) (a : Addr), o.cls = .ref a -> ok o
section
variable {CA : ClsAt} {ok : Obj -> Prop} {FX FX' : Fix} {news news' : Led} {φ φ' H H' : List Addr}
theorem VR.re0 (e : Re0 ok FX FX' news news' φ φ' H H') : ∀ {v : Value} {x : V}, VR CA FX news φ H v x -> VR CA FX' news' φ' H' v x :=
  @VR.rec CA FX news φ H (fun v x _ => VR CA FX' news' φ' H' v x) (fun vs l _ => VRs CA FX' news' φ' H' vs l) (fun es ks l _ => VFs CA FX' news' φ' H' es ks l)
    .none .bool .int (fun x t l h k => .str x t l h k)
    (fun m o _ z r => .tup (e.off _ m (e.ty _ _ rfl (by decide) (by decide)) o).1 (e.off _ m (e.ty _ _ rfl (by decide) (by decide)) o).2 r z)
    (fun m o _ z r => .vls (e.off _ m (e.ty _ _ rfl (by decide) (by decide)) o).1 (e.off _ m (e.ty _ _ rfl (by decide) (by decide)) o).2 r z)
    (fun h => .lst (e.at_ _ _ h)) (fun c m o h => .obj c (e.off _ m (e.rf _ _ rfl) o).1 (e.off _ m (e.rf _ _ rfl) o).2 (e.at_ _ _ h))
    (fun c m o m' o' _ r => .ins c (e.off _ m (e.rf _ _ rfl) o).1 (e.off _ m (e.rf _ _ rfl) o).2 (e.off _ m' (e.ty _ _ rfl (by decide) (by decide)) o').1 (e.off _ m' (e.ty _ _ rfl (by decide) (by decide)) o').2 r)
    (fun h => .feed (e.hd _ h)) (fun m o => .rng (e.off _ m (e.ty _ _ rfl (by decide) (by decide)) o).1 (e.off _ m (e.ty _ _ rfl (by decide) (by decide)) o).2)
    (fun m o f s => .sdct (e.off _ m (e.sd _ _ _ f).1 o).1 (e.off _ m (e.sd _ _ _ f).1 o).2 (e.sd _ _ _ f).2 s)
    (fun m f => .dct (fun p hp => e.off _ (m p hp).1 ((e.td _ _ _ f).1 p hp) (m p hp).2) (e.td _ _ _ f).2)
    .nil (fun _ _ h r => .cons h r) .nil (fun k _ _ h r => .cons k h r)
theorem VRs.re0 (e : Re0 ok FX FX' news news' φ φ' H H') : ∀ {vs : List Value} {l : List V}, VRs CA FX news φ H vs l -> VRs CA FX' news' φ' H' vs l :=
  @VRs.rec CA FX news φ H (fun v x _ => VR CA FX' news' φ' H' v x) (fun vs l _ => VRs CA FX' news' φ' H' vs l) (fun es ks l _ => VFs CA FX' news' φ' H' es ks l)
    .none .bool .int (fun x t l h k => .str x t l h k)
    (fun m o _ z r => .tup (e.off _ m (e.ty _ _ rfl (by decide) (by decide)) o).1 (e.off _ m (e.ty _ _ rfl (by decide) (by decide)) o).2 r z)
    (fun m o _ z r => .vls (e.off _ m (e.ty _ _ rfl (by decide) (by decide)) o).1 (e.off _ m (e.ty _ _ rfl (by decide) (by decide)) o).2 r z)
    (fun h => .lst (e.at_ _ _ h)) (fun c m o h => .obj c (e.off _ m (e.rf _ _ rfl) o).1 (e.off _ m (e.rf _ _ rfl) o).2 (e.at_ _ _ h))
    (fun c m o m' o' _ r => .ins c (e.off _ m (e.rf _ _ rfl) o).1 (e.off _ m (e.rf _ _ rfl) o).2 (e.off _ m' (e.ty _ _ rfl (by decide) (by decide)) o').1 (e.off _ m' (e.ty _ _ rfl (by decide) (by decide)) o').2 r)
    (fun h => .feed (e.hd _ h)) (fun m o => .rng (e.off _ m (e.ty _ _ rfl (by decide) (by decide)) o).1 (e.off _ m (e.ty _ _ rfl (by decide) (by decide)) o).2)
    (fun m o f s => .sdct (e.off _ m (e.sd _ _ _ f).1 o).1 (e.off _ m (e.sd _ _ _ f).1 o).2 (e.sd _ _ _ f).2 s)
    (fun m f => .dct (fun p hp => e.off _ (m p hp).1 ((e.td _ _ _ f).1 p hp) (m p hp).2) (e.td _ _ _ f).2)
    .nil (fun _ _ h r => .cons h r) .nil (fun k _ _ h r => .cons k h r)
theorem VFs.re0 (e : Re0 ok FX FX' news news' φ φ' H H') : ∀ {es : List DictEntry} {ks : List N} {l : List V}, VFs CA FX news φ H es ks l -> VFs CA FX' news' φ' H' es ks l :=
  @VFs.rec CA FX news φ H (fun v x _ => VR CA FX' news' φ' H' v x) (fun vs l _ => VRs CA FX' news' φ' H' vs l) (fun es ks l _ => VFs CA FX' news' φ' H' es ks l)
    .none .bool .int (fun x t l h k => .str x t l h k)
    (fun m o _ z r => .tup (e.off _ m (e.ty _ _ rfl (by decide) (by decide)) o).1 (e.off _ m (e.ty _ _ rfl (by decide) (by decide)) o).2 r z)
    (fun m o _ z r => .vls (e.off _ m (e.ty _ _ rfl (by decide) (by decide)) o).1 (e.off _ m (e.ty _ _ rfl (by decide) (by decide)) o).2 r z)
    (fun h => .lst (e.at_ _ _ h)) (fun c m o h => .obj c (e.off _ m (e.rf _ _ rfl) o).1 (e.off _ m (e.rf _ _ rfl) o).2 (e.at_ _ _ h))
    (fun c m o m' o' _ r => .ins c (e.off _ m (e.rf _ _ rfl) o).1 (e.off _ m (e.rf _ _ rfl) o).2 (e.off _ m' (e.ty _ _ rfl (by decide) (by decide)) o').1 (e.off _ m' (e.ty _ _ rfl (by decide) (by decide)) o').2 r)
    (fun h => .feed (e.hd _ h)) (fun m o => .rng (e.off _ m (e.ty _ _ rfl (by decide) (by decide)) o).1 (e.off _ m (e.ty _ _ rfl (by decide) (by decide)) o).2)
    (fun m o f s => .sdct (e.off _ m (e.sd _ _ _ f).1 o).1 (e.off _ m (e.sd _ _ _ f).1 o).2 (e.sd _ _ _ f).2 s)
    (fun m f => .dct (fun p hp => e.off _ (m p hp).1 ((e.td _ _ _ f).1 p hp) (m p hp).2) (e.td _ _ _ f).2)
    .nil (fun _ _ h r => .cons h r) .nil (fun k _ _ h r => .cons k h r)
end
section
variable {CA : ClsAt} {FX : Fix} {H : List Addr} {n₁ n₂ : Led} {φ₁ φ₂ : List Addr}
theorem Ext.off (e : Ext H n₁ φ₁ n₂ φ₂) {a : Addr} {o : Obj} (m : (a, o) ∈ n₁) (h : Off φ₁ H a) : (a, o) ∈ n₂ /\ Off φ₂ H a :=
  ⟨(e.keep _ m h.1 h.2).1, (e.keep _ m h.1 h.2).2, h.2⟩
theorem Ext.re0 (e : Ext H n₁ φ₁ n₂ φ₂) : Re0 (fun _ => True) FX FX n₁ n₂ φ₁ φ₂ H H := ⟨fun _ _ _ h => ⟨trivial, h⟩, fun _ _ _ h => ⟨fun _ _ => trivial, h⟩, fun _ _ h => e.at h, fun p hp _ h => e.off (a := p.1) (o := p.2) hp h, fun _ h => h, fun _ _ _ _ _ => trivial, fun _ _ _ => trivial⟩
theorem VR.mono (e : Ext H n₁ φ₁ n₂ φ₂) {v : Value} {x : V} (h : VR CA FX n₁ φ₁ H v x) : VR CA FX n₂ φ₂ H v x := VR.re0 e.re0 h
theorem VRs.mono (e : Ext H n₁ φ₁ n₂ φ₂) {vs : List Value} {l : List V} (h : VRs CA FX n₁ φ₁ H vs l) : VRs CA FX n₂ φ₂ H vs l := VRs.re0 e.re0 h
theorem VFs.mono (e : Ext H n₁ φ₁ n₂ φ₂) {es : List DictEntry} {ks : List N} {l : List V} (h : VFs CA FX n₁ φ₁ H es ks l) : VFs CA FX n₂ φ₂ H es ks l := VFs.re0 e.re0 h
end
section
variable (CA : ClsAt) (FX : Fix) (news : Led) (φ H : List Addr)
inductive StrI (u : Value) (l : N) : Prop
  | mk (x : Str) (t : Tok) : u = .str x t -> x.cps.toList = l -> okS l = true -> StrI u l
inductive TupI (u : Value) (l : List V) : Prop
  | mk (a : Addr) (vs : List Value) (n : Nat) : u = .ref a -> (a, tupObj vs n) ∈ news -> Off φ H a -> VRs CA FX news φ H vs l -> l.length <= lineL -> TupI u l
inductive VlsI (u : Value) (l : List V) : Prop
  | mk (a : Addr) (vs : List Value) (n : Nat) : u = .ref a -> (a, listOf (List.toArray vs) n) ∈ news -> Off φ H a -> VRs CA FX news φ H vs l -> l.length <= lineL -> VlsI u l
inductive ObjI (c : N) (i : Nat) (u : Value) : Prop
  | mk (a C d : Addr) : u = .ref a -> CA c = some C -> (a, instObj C d) ∈ news -> Off φ H a -> φ[i]? = some d -> ObjI c i u
inductive ConsI (x : V) (l : List V) (vs : List Value) : Prop
  | mk (u : Value) (us : List Value) : vs = u :: us -> VR CA FX news φ H u x -> VRs CA FX news φ H us l -> ConsI x l vs
inductive ConsJ (u : Value) (us : List Value) (xs : List V) : Prop
  | mk (x : V) (l : List V) : xs = x :: l -> VR CA FX news φ H u x -> VRs CA FX news φ H us l -> ConsJ u us xs
inductive FConsJ (en : DictEntry) (es : List DictEntry) (ks : List N) (xs : List V) : Prop
  | mk (h : Int) (s : Str) (t : Tok) (v : Value) (k : N) (x : V) (ks' : List N) (l : List V) : en = ⟨h, .str s t, v⟩ -> ks = k :: ks' -> xs = x :: l -> s.cps.toList = k -> VR CA FX news φ H v x -> VFs CA FX news φ H es ks' l -> FConsJ en es ks xs
end
noncomputable def VRI (CA : ClsAt) (FX : Fix) (news : Led) (φ H : List Addr) (u : Value) : V -> Prop
  | .int i => ∃ t, u = .int i t
  | .str l => StrI u l
  | .none => u = .none
  | .bool b => u = .bool b
  | .tup l => TupI CA FX news φ H u l
  | .vls l => VlsI CA FX news φ H u l
  | .lst i => ∃ a, u = .ref a /\ φ[i]? = some a
  | .obj c i => ObjI CA news φ H c i u
  | .ins c ks l => ∃ a C d es n, u = .ref a /\ CA c = some C /\ (a, instObj C d) ∈ news /\ Off φ H a /\ (d, dictOf es n) ∈ news /\ Off φ H d /\ VFs CA FX news φ H es ks l
  | .feed => ∃ a, u = .ref a /\ H[0]? = some a
  | .rng lo hi => ∃ a t u' v, u = .ref a /\ (a, rngObj lo hi t u' v) ∈ news /\ Off φ H a
  | .sdct ks l => ∃ a o, u = .ref a /\ (a, o) ∈ news /\ Off φ H a /\ FX.sd o ks l /\ (a == sysModules) = false
  | .dct l => ∃ a nw, u = .ref a /\ (∀ p ∈ nw, p ∈ news /\ Off φ H p.1) /\ FX.td nw a l
noncomputable def VRsI (CA : ClsAt) (FX : Fix) (news : Led) (φ H : List Addr) (vs : List Value) : List V -> Prop
  | [] => vs = []
  | x :: l => ConsI CA FX news φ H x l vs
noncomputable def VRsJ (CA : ClsAt) (FX : Fix) (news : Led) (φ H : List Addr) (xs : List V) : List Value -> Prop
  | [] => xs = []
  | u :: us => ConsJ CA FX news φ H u us xs
noncomputable def VFsJ (CA : ClsAt) (FX : Fix) (news : Led) (φ H : List Addr) (ks : List N) (xs : List V) : List DictEntry -> Prop
  | [] => ks = [] /\ xs = []
  | en :: es => FConsJ CA FX news φ H en es ks xs
section
variable {CA : ClsAt} {FX : Fix} {H : List Addr} {n₁ n₂ : Led} {φ₁ φ₂ : List Addr}
theorem VR.inv {news : Led} {φ : List Addr} {u : Value} {x : V} (r : VR CA FX news φ H u x) : VRI CA FX news φ H u x := by
  cases r with
  | none => exact rfl
  | bool b => exact rfl
  | int i t => exact ⟨_, rfl⟩
  | str x t l h k => exact ⟨x, t, rfl, h, k⟩
  | tup a b c d => exact ⟨_, _, _, rfl, a, b, c, d⟩
  | vls a b c d => exact ⟨_, _, _, rfl, a, b, c, d⟩
  | lst a => exact ⟨_, rfl, a⟩
  | obj a b c d => exact ⟨_, _, _, rfl, a, b, c, d⟩
  | ins a b c d e f => exact ⟨_, _, _, _, _, rfl, a, b, c, d, e, f⟩
  | feed a => exact ⟨_, rfl, a⟩
  | rng a b => exact ⟨_, _, _, _, rfl, a, b⟩
  | sdct a b c d => exact ⟨_, _, rfl, a, b, c, d⟩
  | dct a b => exact ⟨_, _, rfl, a, b⟩
theorem VRs.inv {news : Led} {φ : List Addr} {vs : List Value} {l : List V} (r : VRs CA FX news φ H vs l) : VRsI CA FX news φ H vs l := by
  cases r with
  | nil => exact rfl
  | cons a b => exact ⟨_, _, rfl, a, b⟩
theorem VRs.left {news : Led} {φ : List Addr} {vs : List Value} {l : List V} (r : VRs CA FX news φ H vs l) : VRsJ CA FX news φ H l vs := by
  cases r with
  | nil => exact rfl
  | cons a b => exact ⟨_, _, rfl, a, b⟩
theorem VFs.left {news : Led} {φ : List Addr} {es : List DictEntry} {ks : List N} {l : List V} (r : VFs CA FX news φ H es ks l) : VFsJ CA FX news φ H ks l es := by
  cases r with
  | nil => exact ⟨rfl, rfl⟩
  | cons a b c => exact ⟨_, _, _, _, _, _, _, _, rfl, rfl, rfl, a, b, c⟩
theorem VR.int_e {news : Led} {φ : List Addr} {u : Value} {i : Int} (r : VR CA FX news φ H u (.int i)) : ∃ t, u = .int i t := r.inv
theorem VR.str_e {news : Led} {φ : List Addr} {u : Value} {l : N} (r : VR CA FX news φ H u (.str l)) : StrI u l := r.inv
theorem VR.none_e {news : Led} {φ : List Addr} {u : Value} (r : VR CA FX news φ H u .none) : u = .none := r.inv
theorem VR.bool_e {news : Led} {φ : List Addr} {u : Value} {b : Bool} (r : VR CA FX news φ H u (.bool b)) : u = .bool b := r.inv
theorem VR.tup_e {news : Led} {φ : List Addr} {u : Value} {l : List V} (r : VR CA FX news φ H u (.tup l)) : TupI CA FX news φ H u l := r.inv
theorem VR.vls_e {news : Led} {φ : List Addr} {u : Value} {l : List V} (r : VR CA FX news φ H u (.vls l)) : VlsI CA FX news φ H u l := r.inv
theorem VR.lst_e {news : Led} {φ : List Addr} {u : Value} {i : Nat} (r : VR CA FX news φ H u (.lst i)) : ∃ a, u = .ref a /\ φ[i]? = some a := r.inv
theorem VR.obj_e {news : Led} {φ : List Addr} {u : Value} {c : N} {i : Nat} (r : VR CA FX news φ H u (.obj c i)) : ObjI CA news φ H c i u := r.inv
theorem VR.ins_e {news : Led} {φ : List Addr} {u : Value} {c : N} {ks : List N} {l : List V} (r : VR CA FX news φ H u (.ins c ks l)) : ∃ a C d es n, u = .ref a /\ CA c = some C /\ (a, instObj C d) ∈ news /\ Off φ H a /\ (d, dictOf es n) ∈ news /\ Off φ H d /\ VFs CA FX news φ H es ks l := r.inv
theorem VR.feed_e {news : Led} {φ : List Addr} {u : Value} (r : VR CA FX news φ H u .feed) : ∃ a, u = .ref a /\ H[0]? = some a := r.inv
theorem VR.rng_e {news : Led} {φ : List Addr} {u : Value} {lo hi : Int} (r : VR CA FX news φ H u (.rng lo hi)) : ∃ a t u' v, u = .ref a /\ (a, rngObj lo hi t u' v) ∈ news /\ Off φ H a := r.inv
theorem VR.sdct_e {news : Led} {φ : List Addr} {u : Value} {ks : List N} {l : List V} (r : VR CA FX news φ H u (.sdct ks l)) : ∃ a o, u = .ref a /\ (a, o) ∈ news /\ Off φ H a /\ FX.sd o ks l /\ (a == sysModules) = false := r.inv
theorem VR.dct_e {news : Led} {φ : List Addr} {u : Value} {l : List (N × N × N)} (r : VR CA FX news φ H u (.dct l)) : ∃ a nw, u = .ref a /\ (∀ p ∈ nw, p ∈ news /\ Off φ H p.1) /\ FX.td nw a l := r.inv
theorem VRs.nil_e {news : Led} {φ : List Addr} {vs : List Value} (r : VRs CA FX news φ H vs []) : vs = [] := r.inv
theorem VRs.cons_e {news : Led} {φ : List Addr} {vs : List Value} {x : V} {l : List V} (r : VRs CA FX news φ H vs (x :: l)) : ConsI CA FX news φ H x l vs := r.inv
theorem VRs.one_e {news : Led} {φ : List Addr} {vs : List Value} {x : V} (r : VRs CA FX news φ H vs [x]) : ∃ u, vs = [u] /\ VR CA FX news φ H u x := by
  obtain ⟨u, us, rfl, a, b⟩ := r.cons_e
  exact ⟨u, by rw [b.nil_e], a⟩
theorem VRs.two_e {news : Led} {φ : List Addr} {vs : List Value} {x y : V} (r : VRs CA FX news φ H vs [x, y]) : ∃ u v, vs = [u, v] /\ VR CA FX news φ H u x /\ VR CA FX news φ H v y := by
  obtain ⟨u, us, rfl, a, b⟩ := r.cons_e
  obtain ⟨v, rfl, c⟩ := b.one_e
  exact ⟨u, v, rfl, a, c⟩
theorem VRs.left_nil {news : Led} {φ : List Addr} {xs : List V} (r : VRs CA FX news φ H [] xs) : xs = [] := r.left
theorem VRs.left_cons {news : Led} {φ : List Addr} {u : Value} {us : List Value} {xs : List V} (r : VRs CA FX news φ H (u :: us) xs) : ConsJ CA FX news φ H u us xs := r.left
theorem VRs.left_three {news : Led} {φ : List Addr} {u v w : Value} {xs : List V} (r : VRs CA FX news φ H [u, v, w] xs) : ∃ x y z, xs = [x, y, z] /\ VR CA FX news φ H u x /\ VR CA FX news φ H v y /\ VR CA FX news φ H w z := by
  obtain ⟨x, l, rfl, a, b⟩ := r.left_cons
  obtain ⟨y, l, rfl, c, d⟩ := b.left_cons
  obtain ⟨z, l, rfl, e, f⟩ := d.left_cons
  exact ⟨x, y, z, by rw [f.left_nil], a, c, e⟩
set_option tactic.hygienic true
theorem len_three {α : Type} {l : List α} (h : l.length = 3) : ∃ a b c, l = [a, b, c] := by
  rcases l with _ | ⟨a, _ | ⟨b, _ | ⟨c, _ | ⟨d, l⟩⟩⟩⟩
  case cons.cons.cons.nil => exact ⟨a, b, c, rfl⟩
  all_goals exact nomatch h
set_option tactic.hygienic false
theorem VFs.left_nil {news : Led} {φ : List Addr} {ks : List N} {l : List V} (r : VFs CA FX news φ H [] ks l) : ks = [] /\ l = [] := r.left
theorem VFs.left_cons {news : Led} {φ : List Addr} {en : DictEntry} {es : List DictEntry} {ks : List N} {xs : List V} (r : VFs CA FX news φ H (en :: es) ks xs) : FConsJ CA FX news φ H en es ks xs := r.left
theorem VRs.three_e {news : Led} {φ : List Addr} {vs : List Value} {x y z : V} (r : VRs CA FX news φ H vs [x, y, z]) : ∃ u v w, vs = [u, v, w] /\ VR CA FX news φ H u x /\ VR CA FX news φ H v y /\ VR CA FX news φ H w z := by
  obtain ⟨u, us, rfl, a, b⟩ := r.cons_e
  obtain ⟨v, w, rfl, c, d⟩ := b.two_e
  exact ⟨u, v, w, rfl, a, c, d⟩
end
section
variable (CA : ClsAt) (FX : Fix) (news : Led) (φ H : List Addr)
inductive OR (a : Addr) : AObj -> Prop
  | list {vs : List Value} {n : Nat} {l : List V} : (a, listOf vs.toArray n) ∈ news -> VRs CA FX news φ H vs l -> l.length <= lineL -> OR a (.list l)
  | inst {es : List DictEntry} {n : Nat} {ks : List N} {l : List V} : (a, dictOf es n) ∈ news -> VFs CA FX news φ H es ks l -> OR a (.inst ks l)
  | row {es : List DictEntry} {n : Nat} {pre rest : List V} {pt : V} : (a, dictOf es n) ∈ news -> VFs CA FX news φ H es [n_tokens, n_place, n_parted] [.vls (pre ++ rest), .int (.ofNat pre.length), pt] -> OR a (.row pre rest pt)
end
inductive FeedOk (pin : Led) (H : List Addr) (news : Led) : Prop
  | mk (fa ca x y tx ty n vs is n') : H = fa :: ca :: pin.map (·.1) -> H.Nodup -> (∀ p ∈ pin, p ∈ news) -> (fa, listOf #[.ref ca, .int x tx, .int y ty] n) ∈ news ->
  (ca, listOf (List.toArray vs) n') ∈ news -> IntsAre vs is -> 0 <= y -> y < 2147483647 -> vs.length <= 64 -> FeedOk pin H news
structure Sim (CA : ClsAt) (FX : Fix) (H : List Addr) (h₀ : Heap) (L : Addr) (m : Str -> Option Value) (h : Heap) (news : Led) (φ : List Addr) (σ : Hp) : Prop where
  F : Fr h₀ L h m
  N : News h₀ L h news
  nd : (news.map (·.1)).Nodup
  φn : φ.Nodup
  φl : φ.length = σ.length
  φH : ∀ a ∈ φ, a ∉ H
  ob : ∀ (i : Nat) (o : AObj), σ[i]? = some o -> ∃ a, φ[i]? = some a /\ OR CA FX news φ H a o
  fd : FeedOk FX.pin H news
noncomputable def LR (CA : ClsAt) (FX : Fix) (H : List Addr) (news : Led) (φ : List Addr) (m : Str -> Option Value) (ρ : Mine.Env) : Prop :=
  ∀ (x : Str) (v : V), look ρ.ks ρ.vs x.cps.toList = some v -> ∃ w, m x = some w /\ VR CA FX news φ H w v
theorem OR.inst_e {CA : ClsAt} {FX : Fix} {news : Led} {φ H : List Addr} {a : Addr} {ks : List N} {l : List V} (h : OR CA FX news φ H a (.inst ks l)) : ∃ es n, (a, dictOf es n) ∈ news /\ VFs CA FX news φ H es ks l := by
  cases h with
  | inst m r => exact ⟨_, _, m, r⟩
theorem OR.row_e {CA : ClsAt} {FX : Fix} {news : Led} {φ H : List Addr} {a : Addr} {pre rest : List V} {pt : V} (h : OR CA FX news φ H a (.row pre rest pt)) : ∃ es n, (a, dictOf es n) ∈ news /\ VFs CA FX news φ H es [n_tokens, n_place, n_parted] [.vls (pre ++ rest), .int (.ofNat pre.length), pt] := by
  cases h with
  | row m r => exact ⟨_, _, m, r⟩
theorem OR.list_e {CA : ClsAt} {FX : Fix} {news : Led} {φ H : List Addr} {a : Addr} {l : List V} (h : OR CA FX news φ H a (.list l)) : ∃ vs n, (a, listOf (List.toArray vs) n) ∈ news /\ VRs CA FX news φ H vs l /\ l.length <= lineL := by
  cases h with
  | list m r z => exact ⟨_, _, m, r, z⟩
theorem Sim.or_at {CA : ClsAt} {FX : Fix} {H : List Addr} {h₀ : Heap} {L : Addr} {m : Str -> Option Value} {h : Heap} {news : Led} {φ : List Addr} {σ : Hp} (S : Sim CA FX H h₀ L m h news φ σ) {i : Nat} {o : AObj} {a : Addr} (hs : σ[i]? = some o) (hi : φ[i]? = some a) : OR CA FX news φ H a o := by
  obtain ⟨b, hb, ho⟩ := S.ob _ _ hs
  exact Option.some.inj (hb.symm.trans hi) ▸ ho
theorem leq_iff {a b : N} : leq a b = true ↔ a = b := ⟨leq_e, fun h => h ▸ leq_refl a⟩
theorem str_ext {x y : Str} (h : x.cps.toList = y.cps.toList) : x = y := by
  cases x; cases y
  simp only [Str.mk.injEq]
  exact Array.toList_inj.mp h
theorem LR.mono {CA : ClsAt} {FX : Fix} {H : List Addr} {n₁ n₂ : Led} {φ₁ φ₂ : List Addr} {m : Str -> Option Value} {ρ : Mine.Env} (e : Ext H n₁ φ₁ n₂ φ₂) (h : LR CA FX H n₁ φ₁ m ρ) : LR CA FX H n₂ φ₂ m ρ :=
  fun x v q => let ⟨w, a, b⟩ := h x v q; ⟨w, a, b.mono e⟩
theorem look_put (x y : N) (v : V) : ∀ (ks : List N) (vs : List V), ks.length = vs.length -> look (putK ks x) (putV ks vs x v) y = if leq x y = true then some v else look ks vs y
  | [], [], _ => by
    simp only [putK, putV, look]
    cases leq x y <;> rfl
  | k :: ks, w :: vs, hl => by
    have ih := look_put x y v ks vs (by simpa using hl)
    simp only [putK, putV]
    cases hk : leq k x with
    | true =>
      have := leq_iff.mp hk
      subst this
      simp only [look]
      cases leq k y <;> rfl
    | false =>
      simp only [look]
      cases hy : leq k y with
      | true =>
        have := leq_iff.mp hy
        subst this
        have : leq x k = false := by
          cases h : leq x k with
          | false => rfl
          | true => rw [leq_iff.mp h] at hk; rw [leq_iff.mpr rfl] at hk; cases hk
        simp [this]
      | false => simp [ih]
theorem putL_len (x : N) (v : V) : ∀ (ks : List N) (vs : List V), ks.length = vs.length -> (putK ks x).length = (putV ks vs x v).length
  | [], [], _ => rfl
  | k :: ks, w :: vs, hl => by
    have ih := putL_len x v ks vs (by simpa using hl)
    simp only [putK, putV]
    cases leq k x <;> simp [ih] <;> simpa using hl
theorem LR.put {CA : ClsAt} {FX : Fix} {H : List Addr} {n₁ : Led} {φ₁ : List Addr} {m : Str -> Option Value} {ρ : Mine.Env} (h : LR CA FX H n₁ φ₁ m ρ) (hl : ρ.ks.length = ρ.vs.length) {x : Str} {v : V} {w : Value} (r : VR CA FX n₁ φ₁ H w v) :
    LR CA FX H n₁ φ₁ (fun y => if y = x then some w else m y) (ρ.put x.cps.toList v) := by
  intro y u q
  simp only [Env.put] at q
  rw [look_put _ _ _ _ _ hl] at q
  by_cases hxy : leq x.cps.toList y.cps.toList = true
  · rw [if_pos hxy] at q
    cases q
    have : y = x := (str_ext (leq_iff.mp hxy)).symm
    exact ⟨w, by simp [this], r⟩
  · rw [if_neg hxy] at q
    obtain ⟨w', a, b⟩ := h y u q
    have : y ≠ x := fun e => hxy (by rw [e]; exact leq_iff.mpr rfl)
    exact ⟨w', by simp [this, a], b⟩
end Mine
end

section
open PySem PySem.W PyProof.Rows
namespace Mine
section
variable {CA : ClsAt} {FX : Fix} {H : List Addr} {h₀ h h' : Heap} {L : Addr} {m m' : Str -> Option Value} {news news' : Led} {φ φ' : List Addr} {σ : Hp}
set_option tactic.hygienic false
theorem OR.mono {n₁ n₂ : Led} {φ₁ φ₂ : List Addr} (e : Ext H n₁ φ₁ n₂ φ₂) {a : Addr} {o : AObj} (hk : ∀ ob, (a, ob) ∈ n₁ -> (a, ob) ∈ n₂) (h : OR CA FX n₁ φ₁ H a o) : OR CA FX n₂ φ₂ H a o := by
  cases h with
  | list m r z => exact .list (hk _ m) (r.mono e) z
  | inst m r => exact .inst (hk _ m) (r.mono e)
  | row m r => exact .row (hk _ m) (r.mono e)
theorem OR.in {a : Addr} {o : AObj} (h : OR CA FX news φ H a o) : ∃ ob, (a, ob) ∈ news := by
  cases h with
  | list m r z => exact ⟨_, m⟩
  | inst m r => exact ⟨_, m⟩
  | row m r => exact ⟨_, m⟩
theorem Sim.φin (S : Sim CA FX H h₀ L m h news φ σ) {a : Addr} (ha : a ∈ φ) : ∃ ob, (a, ob) ∈ news := by
  obtain ⟨i, hi, rfl⟩ := List.mem_iff_getElem.mp ha
  have hs : i < σ.length := S.φl ▸ hi
  obtain ⟨b, hb, ho⟩ := S.ob i σ[i] (List.getElem?_eq_getElem hs)
  rw [List.getElem?_eq_getElem hi] at hb
  cases hb
  exact ho.in
theorem FeedOk.at {pin : Led} (f : FeedOk pin H news) {a : Addr} (ha : a ∈ H) : ∃ ob, (a, ob) ∈ news := by
  obtain ⟨fa, ca, x, y, tx, ty, n, vs, is, n', rfl, nd, mp, m1, m2, _, _, _, _⟩ := f
  rcases List.mem_cons.mp ha with rfl | ha
  · exact ⟨_, m1⟩
  · rcases List.mem_cons.mp ha with rfl | ha
    · exact ⟨_, m2⟩
    · obtain ⟨p, hp, rfl⟩ := List.mem_map.mp ha
      exact ⟨_, mp p hp⟩
theorem Sim.frame (S : Sim CA FX H h₀ L m h news φ σ) (F : Fr h₀ L h' m') (N : News h₀ L h' news) : Sim CA FX H h₀ L m' h' news φ σ :=
  ⟨F, N, S.nd, S.φn, S.φl, S.φH, S.ob, S.fd⟩
theorem FeedOk.two {pin : Led} (f : FeedOk pin H news) : ∃ fa ca, H = fa :: ca :: pin.map (·.1) := by
  obtain ⟨fa, ca, x, y, tx, ty, n, vs, is, n', e, _, _, _, _, _, _, _, _⟩ := f
  exact ⟨fa, ca, e⟩
theorem FeedOk.no {pin : Led} (f : FeedOk pin H news) {a : Addr} (hf : ∀ p ∈ news, p.1 < a) : a ∉ H := fun q => by
  obtain ⟨_, mq⟩ := f.at q
  exact Nat.lt_irrefl _ (hf _ mq)
theorem FeedOk.mono {pin : Led} (f : FeedOk pin H news) (hk : ∀ p ∈ news, p.1 ∈ H -> p ∈ news') : FeedOk pin H news' := by
  obtain ⟨fa, ca, x, y, tx, ty, n, vs, is, n', rfl, nd, mp, m1, m2, r1, r2, r3, r4⟩ := f
  exact ⟨fa, ca, x, y, tx, ty, n, vs, is, n', rfl, nd, fun p hp => hk _ (mp p hp) (.tail _ (.tail _ (List.mem_map.mpr ⟨p, hp, rfl⟩))), hk _ m1 (.head _), hk _ m2 (.tail _ (.head _)), r1, r2, r3, r4⟩
theorem ext_cons {a : Addr} {o : Obj} (hf : ∀ p ∈ news, p.1 < a) : Ext H news φ ((a, o) :: news) φ := ⟨⟨[], by simp⟩, fun p hp h1 _ => ⟨.tail _ hp, h1⟩⟩
theorem off_new (S : Sim CA FX H h₀ L m h news φ σ) {a : Addr} (hf : ∀ p ∈ news, p.1 < a) : Off φ H a :=
  ⟨fun q => by
    obtain ⟨_, m⟩ := S.φin q
    exact Nat.lt_irrefl _ (hf _ m), S.fd.no hf⟩
theorem Sim.push (S : Sim CA FX H h₀ L m h news φ σ) {a : Addr} {o : Obj} (hf : ∀ p ∈ news, p.1 < a) (F : Fr h₀ L h' m') (N : News h₀ L h' ((a, o) :: news)) :
    Sim CA FX H h₀ L m' h' ((a, o) :: news) φ σ /\ Ext H news φ ((a, o) :: news) φ := by
  refine ⟨⟨F, N, ?_, S.φn, S.φl, S.φH, fun i ob e => ?_, S.fd.mono fun p hp _ => .tail _ hp⟩, ext_cons hf⟩
  · rw [List.map_cons, List.nodup_cons]
    exact ⟨fun q => by obtain ⟨p, hp, e⟩ := List.mem_map.mp q; exact absurd (hf p hp) (by simp only at e; rw [e]; exact Nat.lt_irrefl _), S.nd⟩
  · obtain ⟨b, hb, r⟩ := S.ob i ob e
    exact ⟨b, hb, r.mono (ext_cons hf) fun _ q => .tail _ q⟩
theorem Sim.pushM (S : Sim CA FX H h₀ L m h news φ σ) {a : Addr} {o : Obj} {ao : AObj} (hf : ∀ p ∈ news, p.1 < a) (F : Fr h₀ L h' m') (N : News h₀ L h' ((a, o) :: news))
    (ho : OR CA FX ((a, o) :: news) (φ ++ [a]) H a ao) : Sim CA FX H h₀ L m' h' ((a, o) :: news) (φ ++ [a]) (σ ++ [ao]) /\ Ext H news φ ((a, o) :: news) (φ ++ [a]) := by
  have off := off_new S hf
  have ex : Ext H news φ ((a, o) :: news) (φ ++ [a]) := ⟨⟨[a], rfl⟩, fun p hp h1 _ => ⟨.tail _ hp, fun q => by
    rcases List.mem_append.mp q with q | q
    · exact h1 q
    · have := List.mem_singleton.mp q
      exact absurd (hf p hp) (by rw [this]; exact Nat.lt_irrefl _)⟩⟩
  refine ⟨⟨F, N, ?_, ?_, by simp [S.φl], ?_, fun i ob e => ?_, S.fd.mono fun p hp _ => .tail _ hp⟩, ex⟩
  · rw [List.map_cons, List.nodup_cons]
    exact ⟨fun q => by obtain ⟨p, hp, e⟩ := List.mem_map.mp q; exact absurd (hf p hp) (by simp only at e; rw [e]; exact Nat.lt_irrefl _), S.nd⟩
  · rw [List.nodup_append]
    refine ⟨S.φn, by simp, fun x hx y hy => ?_⟩
    rw [List.mem_singleton.mp hy]
    exact fun e => off.1 (e ▸ hx)
  · intro b hb
    rcases List.mem_append.mp hb with hb | hb
    · exact S.φH b hb
    · rw [List.mem_singleton.mp hb]; exact off.2
  · by_cases hi : i < σ.length
    · rw [List.getElem?_append_left hi] at e
      obtain ⟨b, hb, r⟩ := S.ob i ob e
      exact ⟨b, ex.at hb, r.mono ex fun _ q => .tail _ q⟩
    · have hi' : i = σ.length := by
        have := (List.getElem?_eq_some_iff.mp e).1
        simp at this
        omega
      subst hi'
      simp at e
      subst e
      exact ⟨a, by rw [<- S.φl]; simp, ho⟩
noncomputable def updL (d : Addr) (o : Obj) (news : Led) : Led := news.map fun p => if p.1 = d then (d, o) else p
theorem updL_fst (d : Addr) (o : Obj) : ∀ news : Led, (updL d o news).map (·.1) = news.map (·.1)
  | [] => rfl
  | p :: r => by
    have ih := updL_fst d o r
    simp only [updL, List.map_cons] at ih ⊢
    rw [ih]
    by_cases h : p.1 = d <;> simp [h]
theorem updL_of_off {d : Addr} {o : Obj} : ∀ {news : Led}, (∀ p ∈ news, p.1 ≠ d) -> updL d o news = news
  | [], _ => rfl
  | p :: r, h => by
    have ih := updL_of_off (d := d) (o := o) (news := r) fun q hq => h q (.tail _ hq)
    simp only [updL, List.map_cons] at ih ⊢
    rw [ih, if_neg (h p (.head _))]
theorem updL_upd {d : Addr} {o o' : Obj} : ∀ {news : Led}, (news.map (·.1)).Nodup -> (d, o) ∈ news -> Upd d o o' news (updL d o' news)
  | p :: r, nd, hm => by
    rw [List.map_cons, List.nodup_cons] at nd
    rcases List.mem_cons.mp hm with rfl | hm
    · have off : ∀ q ∈ r, q.1 ≠ d := fun q hq e => nd.1 (List.mem_map.mpr ⟨q, hq, e⟩)
      have e : updL d o' ((d, o) :: r) = (d, o') :: r := by
        have := updL_of_off (o := o') off
        simp only [updL, List.map_cons, if_true] at this ⊢
        rw [this]
      rw [e]
      exact .head off
    · have hne : p.1 ≠ d := fun e => nd.1 (List.mem_map.mpr ⟨(d, o), hm, e.symm⟩)
      have e : updL d o' (p :: r) = p :: updL d o' r := by simp only [updL, List.map_cons, if_neg hne]
      rw [e]
      exact .tail hne (updL_upd nd.2 hm)
theorem updL_mem {d : Addr} {o : Obj} {p : Addr × Obj} (hp : p ∈ news) (hne : p.1 ≠ d) : p ∈ updL d o news :=
  List.mem_map.mpr ⟨p, hp, if_neg hne⟩
theorem updL_self {d : Addr} {o o' : Obj} (hp : (d, o) ∈ news) : (d, o') ∈ updL d o' news :=
  List.mem_map.mpr ⟨(d, o), hp, if_pos rfl⟩
theorem Ext.upd {d : Addr} {o : Obj} (hd : d ∈ φ \/ d ∈ H) : Ext H news φ (updL d o news) φ :=
  ⟨⟨[], by simp⟩, fun p hp h1 h2 => ⟨updL_mem hp fun e => hd.elim (fun q => h1 (e ▸ q)) fun q => h2 (e ▸ q), h1⟩⟩
theorem nodup_inj {l : List Addr} (h : l.Nodup) {i j : Nat} {a : Addr} (hi : l[i]? = some a) (hj : l[j]? = some a) : i = j := by
  obtain ⟨h1, e1⟩ := List.getElem?_eq_some_iff.mp hi
  obtain ⟨h2, e2⟩ := List.getElem?_eq_some_iff.mp hj
  have hp := List.pairwise_iff_getElem.mp h
  rcases Nat.lt_trichotomy i j with q | q | q
  · exact absurd (e1.trans e2.symm) (hp i j h1 h2 q)
  · exact q
  · exact absurd (e2.trans e1.symm) (hp j i h2 h1 q)
theorem φ_inj (S : Sim CA FX H h₀ L m h news φ σ) {i j : Nat} {a : Addr} (hi : φ[i]? = some a) (hj : φ[j]? = some a) : i = j := nodup_inj S.φn hi hj
theorem Sim.upd (S : Sim CA FX H h₀ L m h news φ σ) {i : Nat} {a : Addr} {o : Obj} {ao : AObj} (hi : φ[i]? = some a) (F : Fr h₀ L h' m') (N : News h₀ L h' (updL a o news))
    (ho : OR CA FX (updL a o news) φ H a ao) : Sim CA FX H h₀ L m' h' (updL a o news) φ (σ.set i ao) /\ Ext H news φ (updL a o news) φ := by
  have ma : a ∈ φ := List.mem_of_getElem? hi
  have ex : Ext H news φ (updL a o news) φ := .upd (.inl ma)
  refine ⟨⟨F, N, by rw [updL_fst]; exact S.nd, S.φn, by simp [S.φl], S.φH, fun j ob e => ?_, S.fd.mono fun p hp q => updL_mem hp fun z => S.φH a ma (z ▸ q)⟩, ex⟩
  by_cases hij : i = j
  · subst hij
    have hlt : i < σ.length := by have := (List.getElem?_eq_some_iff.mp e).1; simpa using this
    rw [List.getElem?_set_self hlt] at e
    cases e
    exact ⟨a, hi, ho⟩
  · rw [List.getElem?_set_ne hij] at e
    obtain ⟨b, hb, r⟩ := S.ob j ob e
    refine ⟨b, hb, r.mono ex fun _ q => updL_mem q fun z => hij (φ_inj S hi ?_)⟩
    simp only at z
    rw [<- z]; exact hb
end
end Mine
end

section
open PySem PySem.W PyProof.Rows
namespace Mine
section
variable {CA : ClsAt} {FX : Fix} {H : List Addr} {h₀ h h' : Heap} {L : Addr} {m m' : Str -> Option Value} {news news' : Led} {φ φ' : List Addr} {σ : Hp}
set_option tactic.hygienic false
theorem VRs.length {vs : List Value} {l : List V} (r : VRs CA FX news φ H vs l) : vs.length = l.length := by
  induction vs generalizing l with
  | nil => rw [r.left_nil]; rfl
  | cons v vs ih =>
    replace r := r.left_cons
    obtain ⟨x, k, rfl, _, r⟩ := r
    exact congrArg (· + 1) (ih r)
theorem VRs.get {vs : List Value} {l : List V} (r : VRs CA FX news φ H vs l) {k : Nat} {x : V} (e : l[k]? = some x) : ∃ v, vs[k]? = some v /\ VR CA FX news φ H v x := by
  induction vs generalizing l k with
  | nil => rw [r.left_nil] at e; exact nS e
  | cons v vs ih =>
    replace r := r.left_cons
    obtain ⟨y, l, rfl, h, r⟩ := r
    cases k with
    | zero => exact ⟨v, rfl, Option.some.inj e ▸ h⟩
    | succ k => exact ih r e
theorem VRs.append {vs ws : List Value} {l k : List V} (r : VRs CA FX news φ H vs l) (q : VRs CA FX news φ H ws k) : VRs CA FX news φ H (vs ++ ws) (l ++ k) := by
  induction vs generalizing l with
  | nil => rw [r.left_nil]; exact q
  | cons v vs ih =>
    replace r := r.left_cons
    obtain ⟨y, l, rfl, h, r⟩ := r
    exact .cons h (ih r)
theorem VRs.drop {vs : List Value} {l : List V} (r : VRs CA FX news φ H vs l) (k : Nat) : VRs CA FX news φ H (vs.drop k) (l.drop k) := by
  induction vs generalizing l k with
  | nil => rw [r.left_nil, List.drop_nil, List.drop_nil]; exact .nil
  | cons v vs ih =>
    replace r := r.left_cons
    obtain ⟨y, l, rfl, h, r⟩ := r
    cases k with
    | zero => exact .cons h r
    | succ k => exact ih r k
theorem VRs.take {vs : List Value} {l : List V} (r : VRs CA FX news φ H vs l) (k : Nat) : VRs CA FX news φ H (vs.take k) (l.take k) := by
  induction vs generalizing l k with
  | nil => rw [r.left_nil, List.take_nil, List.take_nil]; exact .nil
  | cons v vs ih =>
    replace r := r.left_cons
    obtain ⟨y, l, rfl, h, r⟩ := r
    cases k with
    | zero => exact .nil
    | succ k => exact .cons h (ih r k)
theorem items_at (S : Sim CA FX H h₀ L m h news φ σ) {v : Value} {x : V} (r : VR CA FX news φ H v x) {l : List V} (e : items σ x = some l) :
    ∃ a vs n, v = .ref a /\ (a, listOf (List.toArray vs) n) ∈ news /\ VRs CA FX news φ H vs l /\ l.length <= lineL := by
  rcases items_e e with rfl | ⟨i, rfl, hs⟩
  · obtain ⟨_, _, _, rfl, mm, o, q, z⟩ := r.vls_e
    exact ⟨_, _, _, rfl, mm, q, z⟩
  · obtain ⟨a, rfl, hi⟩ := r.lst_e
    obtain ⟨vs, n, mm, q, z⟩ := (S.or_at hs hi).list_e
    exact ⟨_, _, _, rfl, mm, q, z⟩
theorem strs_of {vs : List Value} {l : List V} (r : VRs CA FX news φ H vs l) : ∀ {ss : List N}, strsOf l = some ss -> ∃ ys : List Str, StrsAre vs ys /\ ys.map (fun y => y.cps.toList) = ss /\ ∀ s ∈ ss, okS s = true := by
  induction l generalizing vs with
  | nil => obtain rfl := r.nil_e; intro ss e; cases e; exact ⟨[], .nil, rfl, fun _ h => nomatch h⟩
  | cons v l ih =>
    obtain ⟨u, us, rfl, h, rr⟩ := r.cons_e
    intro ss e
    obtain ⟨s, ss, e1, e2, rfl⟩ := mapO_e e
    clear e
    obtain rfl := strV_e e1
    obtain ⟨x, t, rfl, hk, ok⟩ := h.str_e
    obtain ⟨ys, a, b, c⟩ := ih rr e2
    exact ⟨x :: ys, StrsAre.cons x t a, by rw [List.map_cons, hk, b], fun s hs => by rcases List.mem_cons.mp hs with rfl | hs; exact ok; exact c s hs⟩
theorem memN_iff : ∀ {l : List N} {x : N}, memN l x = true ↔ x ∈ l
  | [], x => by simp [memN]
  | k :: r, x => by
    have ih := @memN_iff r x
    unfold memN
    cases h : leq k x with
    | true => simp [leq_iff.mp h]
    | false =>
      have : k ≠ x := fun e => by rw [leq_iff.mpr e] at h; cases h
      simp [ih, Ne.symm this]
theorem any_mem (ys : List Str) (x : Str) : (ys.any fun y => y == x) = memN (ys.map fun y => y.cps.toList) x.cps.toList := by
  rw [Bool.eq_iff_iff, memN_iff, List.any_eq_true, List.mem_map]
  constructor
  · rintro ⟨y, hy, e⟩
    exact ⟨y, hy, by rw [beq_iff_eq.mp e]⟩
  · rintro ⟨y, hy, e⟩
    exact ⟨y, hy, beq_iff_eq.mpr (str_ext e)⟩
theorem leq_str (x y : Str) : (x == y) = leq x.cps.toList y.cps.toList := by
  rw [Bool.eq_iff_iff, leq_iff, beq_iff_eq]
  exact ⟨fun e => by rw [e], str_ext⟩
theorem okS_ok : ∀ {l : N} {x : Str}, x.cps.toList = l -> okS l = true -> PyData.strOk x = true := by
  have key : ∀ l : N, okS l = true -> l.all (fun c => decide (c < 1114112)) = true := by
    intro l
    induction l with
    | nil => intro _; rfl
    | cons c r ih =>
      intro h
      unfold okS at h
      cases q : Nat.blt c 1114112 with
      | true =>
        rw [q] at h
        have hc : c < 1114112 := Nat.le_of_ble_eq_true q
        simp [hc]
        simpa using ih h
      | false => rw [q] at h; cases h
  intro l x e h
  subst e
  have := key _ h
  unfold PyData.strOk
  rw [<- Array.all_toList]
  exact this
end
end Mine
end

section
open PySem PySem.W PyProof.Rows
namespace Mine
inductive CmpV (σ : Hp) : CmpOp -> V -> V -> Bool -> Prop
  | eqI (i j : Int) : CmpV σ .Eq (.int i) (.int j) (i == j)
  | eqS (x y : N) : CmpV σ .Eq (.str x) (.str y) (leq x y)
  | neS (x y : N) : CmpV σ .NotEq (.str x) (.str y) (!leq x y)
  | gtI (i j : Int) : CmpV σ .Gt (.int i) (.int j) (decide (j < i))
  | geI (i j : Int) : CmpV σ .GtE (.int i) (.int j) (decide (j <= i))
  | inT {x : N} {l : List V} {l' : List N} : strsOf l = some l' -> CmpV σ .In (.str x) (.tup l) (memN l' x)
  | niT {x : N} {l : List V} {l' : List N} : strsOf l = some l' -> CmpV σ .NotIn (.str x) (.tup l) (!memN l' x)
  | inL {x : N} {b : V} {l : List V} {l' : List N} : items σ b = some l -> strsOf l = some l' -> CmpV σ .In (.str x) b (memN l' x)
  | niL {x : N} {b : V} {l : List V} {l' : List N} : items σ b = some l -> strsOf l = some l' -> CmpV σ .NotIn (.str x) b (!memN l' x)
set_option tactic.hygienic false
theorem no_some {α : Type} {t : α} {G : Prop} (h : (none : Option α) = some t) : G := nomatch h
theorem by_some {α : Type} {p : α -> Prop} {x y : α} (h : some x = some y) (k : p x) : p y := Option.some.inj h ▸ k
theorem strs_bind {l : List V} {t : Bool} {f : List N -> Bool} (h : (match strsOf l with
    | some l' => some (f l')
    | none => none) = some t) : ∃ l', strsOf l = some l' /\ t = f l' := by
  cases hl : strsOf l with
  | none => rw [hl] at h; cases h
  | some l' => rw [hl] at h; cases h; exact ⟨_, rfl, rfl⟩
theorem items_bind {σ : Hp} {b : V} {t : Bool} {f : List N -> Bool} (h : (match items σ b with
    | some l => (match strsOf l with
      | some l' => some (f l')
      | none => none)
    | none => none) = some t) : ∃ l l', items σ b = some l /\ strsOf l = some l' /\ t = f l' := by
  cases hl : items σ b with
  | none => rw [hl] at h; cases h
  | some l =>
    rw [hl] at h
    obtain ⟨l', h1, h2⟩ := strs_bind h
    exact ⟨_, _, rfl, h1, h2⟩
set_option tactic.hygienic true
theorem cmp_in {σ : Hp} {x : N} {b : V} {t : Bool} (h : cmpF σ .In (.str x) b = some t) : CmpV σ .In (.str x) b t := by
  cases b
  case tup l => obtain ⟨l', h1, rfl⟩ := strs_bind (f := fun l' => memN l' x) h; exact .inT h1
  case lst i => obtain ⟨l, l', h0, h1, rfl⟩ := items_bind (f := fun l' => memN l' x) h; exact .inL h0 h1
  case vls l => obtain ⟨l, l', h0, h1, rfl⟩ := items_bind (σ := σ) (b := .vls _) (f := fun l' => memN l' x) h; exact .inL h0 h1
  all_goals exact no_some h
theorem cmp_ni {σ : Hp} {x : N} {b : V} {t : Bool} (h : cmpF σ .NotIn (.str x) b = some t) : CmpV σ .NotIn (.str x) b t := by
  cases b
  case tup l => obtain ⟨l', h1, rfl⟩ := strs_bind (f := fun l' => !memN l' x) h; exact .niT h1
  case lst i => obtain ⟨l, l', h0, h1, rfl⟩ := items_bind (f := fun l' => !memN l' x) h; exact .niL h0 h1
  case vls l => obtain ⟨l, l', h0, h1, rfl⟩ := items_bind (σ := σ) (b := .vls _) (f := fun l' => !memN l' x) h; exact .niL h0 h1
  all_goals exact no_some h
theorem cmp_inv {σ : Hp} {op : CmpOp} {a b : V} {t : Bool} (h : cmpF σ op a b = some t) : CmpV σ op a b t := by
  cases op
  case Eq =>
    cases a
    case int i => cases b <;> first | exact no_some h | exact by_some h (.eqI _ _)
    case str x => cases b <;> first | exact no_some h | exact by_some h (.eqS _ _)
    all_goals exact no_some h
  case NotEq =>
    cases a
    case str x => cases b <;> first | exact no_some h | exact by_some h (.neS _ _)
    all_goals exact no_some h
  case Gt =>
    cases a
    case int i => cases b <;> first | exact no_some h | exact by_some h (.gtI _ _)
    all_goals exact no_some h
  case GtE =>
    cases a
    case int i => cases b <;> first | exact no_some h | exact by_some h (.geI _ _)
    all_goals exact no_some h
  case In =>
    cases a
    case str x => exact cmp_in h
    all_goals exact no_some h
  case NotIn =>
    cases a
    case str x => exact cmp_ni h
    all_goals exact no_some h
  all_goals exact no_some h
inductive BinV (σ : Hp) : Operator -> V -> V -> V -> Prop
  | add (i j : Int) : BinV σ .Add (.int i) (.int j) (.int (i + j))
  | sub (i j : Int) : BinV σ .Sub (.int i) (.int j) (.int (i - j))
  | mod (i : Int) (n : Nat) : BinV σ .Mod (.int i) (.int (.ofNat (n + 1))) (.int (Int.fmod i (Int.ofNat (n + 1))))
  | mul (n : Nat) (j : Int) : Nat.blt n 1048576 = true -> BinV σ .Mult (.int (.ofNat n)) (.int j) (.int (Int.ofNat n * j))
  | str (x y : N) : okC x y = true -> BinV σ .Add (.str x) (.str y) (.str (x ++ y))
  | lst {a b : V} {l r : List V} : items σ a = some l -> items σ b = some r -> BinV σ .Add a b (.vls (l ++ r))
set_option tactic.hygienic false
theorem add_bind {σ : Hp} {a b y : V} (h : (match items σ a with
    | some l => (match items σ b with
      | some r => some (V.vls (l ++ r))
      | none => none)
    | none => none) = some y) : BinV σ .Add a b y := by
  cases h1 : items σ a with
  | none => rw [h1] at h; cases h
  | some l =>
    rw [h1] at h
    cases h2 : items σ b with
    | none => rw [h2] at h; cases h
    | some r => rw [h2] at h; cases h; exact .lst h1 h2
set_option tactic.hygienic true
theorem bin_inv {σ : Hp} {op : Operator} {a b y : V} (h : binop σ op a b = some y) : BinV σ op a b y := by
  cases op
  case Add =>
    cases a
    case int i => cases b <;> first | exact no_some h | exact by_some h (.add _ _)
    case str x =>
      cases b
      case str y' =>
        have h' : (match okC x y' with
          | true => some (V.str (x ++ y'))
          | false => none) = some y := h
        cases hk : okC x y' with
        | true => rw [hk] at h'; exact by_some h' (.str _ _ hk)
        | false => rw [hk] at h'; exact no_some h'
      all_goals exact no_some h
    case vls l => exact add_bind h
    case lst i => exact add_bind h
    all_goals exact no_some h
  case Sub =>
    cases a
    case int i => cases b <;> first | exact no_some h | exact by_some h (.sub _ _)
    all_goals exact no_some h
  case Mod =>
    cases a
    case int i =>
      cases b
      case int j =>
        rcases j with (_ | n) | n
        · exact no_some h
        · exact by_some h (.mod _ _)
        · exact no_some h
      all_goals exact no_some h
    all_goals exact no_some h
  case Mult =>
    cases a
    case int i =>
      cases b
      case int j =>
        rcases i with n | n
        · have h' : (match Nat.blt n 1048576 with
            | true => some (V.int (Int.ofNat n * j))
            | false => none) = some y := h
          cases hk : Nat.blt n 1048576 with
          | true => rw [hk] at h'; exact by_some h' (.mul _ _ hk)
          | false => rw [hk] at h'; exact no_some h'
        · exact no_some h
      all_goals exact no_some h
    all_goals exact no_some h
  all_goals (cases a <;> exact no_some h)
end Mine
end

section
open PySem PySem.W PyProof.Rows
namespace Mine
mutual
theorem isDb_isD : ∀ {n : Nat} {x : V}, isDb n x = true -> isD n x
  | n, x, h => by
    cases x
    case none => exact .none
    case bool b => exact .bool b
    case int i => exact .int i
    case str s => exact .str s
    case tup l =>
      cases n
      · exact absurd h Bool.false_ne_true
      · exact .tup (isDbs_isD h)
    case vls l =>
      cases n
      · exact absurd h Bool.false_ne_true
      · exact .vls (isDbs_isD h)
    all_goals exact absurd h (by cases n <;> exact Bool.false_ne_true)
theorem isDbs_isD : ∀ {n : Nat} {l : List V}, isDbs n l = true -> isDs n l
  | n, [], _ => .nil
  | n, y :: r, h => by
    cases hb : isDb n y with
    | true =>
      simp only [isDbs, hb] at h
      exact .cons (isDb_isD hb) (isDbs_isD h)
    | false => simp only [isDbs, hb, Bool.false_eq_true] at h
end
theorem ifB_isD {n : Nat} {x : V} {P : Prop} (h : ifB (isDb n x) P) : isD n x /\ P := by
  unfold ifB at h
  split at h
  · rename_i q; exact ⟨isDb_isD q, h⟩
  · exact h.elim
mutual
noncomputable def pyD : V -> PyData
  | .bool b => .bool b
  | .int i => .int i
  | .str s => .str ⟨⟨s⟩⟩
  | .tup l => .tuple (pyDs l)
  | .vls l => .list (pyDs l)
  | _ => .none
noncomputable def pyDs : List V -> List PyData
  | [] => []
  | v :: r => pyD v :: pyDs r
end
set_option tactic.hygienic false
theorem mk_str {x : Str} {l : N} (h : x.cps.toList = l) : (⟨⟨l⟩⟩ : Str) = x := str_ext (by simp [h])
section
variable {CA : ClsAt} {FX : Fix} {H : List Addr} {h₀ h h' : Heap} {L : Addr} {m m' : Str -> Option Value} {news news' : Led} {φ φ' : List Addr} {σ : Hp}
mutual
theorem reads_d (N : News h₀ L h news) : ∀ {v : Value} {x : V} (n : Nat), VR CA FX news φ H v x -> isD n x -> ∃ as, Reads h v (pyD x) as /\ (pyD x).canLay0 = true /\ (pyD x).depth <= n
  | _, _, n, r, hd => by
    cases hd with
    | none => obtain rfl := r.none_e; exact ⟨_, .none, rfl, Nat.zero_le _⟩
    | bool b => obtain rfl := r.bool_e; exact ⟨_, .bool b, rfl, Nat.zero_le _⟩
    | int i => obtain ⟨t, rfl⟩ := r.int_e; exact ⟨_, .int i t, rfl, Nat.zero_le _⟩
    | str l =>
      obtain ⟨x, t, rfl, e, k⟩ := r.str_e
      exact ⟨_, by rw [pyD, mk_str e]; exact .str x t, by rw [pyD, mk_str e]; exact okS_ok e k, Nat.zero_le _⟩
    | tup hd =>
      replace r := r.tup_e
      obtain ⟨_, _, _, rfl, mm, o, r, _⟩ := r
      obtain ⟨as, q, c, z⟩ := reads_ds N _ r hd
      exact ⟨as, .tuple (N.get mm) rfl rfl q, c, Nat.succ_le_succ z⟩
    | vls hd =>
      replace r := r.vls_e
      obtain ⟨_, _, _, rfl, mm, o, r, _⟩ := r
      obtain ⟨as, q, c, z⟩ := reads_ds N _ r hd
      exact ⟨_, .list (N.get mm) rfl rfl q, c, Nat.succ_le_succ z⟩
theorem reads_ds (N : News h₀ L h news) : ∀ {vs : List Value} {l : List V} (n : Nat), VRs CA FX news φ H vs l -> isDs n l -> ∃ as, ReadsAll h vs (pyDs l) as /\ PyData.canLayAll0 (pyDs l) = true /\ PyData.depthAll (pyDs l) <= n
  | _, _, n, r, hd => by
    cases hd with
    | nil => obtain rfl := r.nil_e; exact ⟨_, .nil, rfl, Nat.zero_le _⟩
    | cons hx hl =>
      replace r := r.cons_e
      obtain ⟨_, _, rfl, r, rs⟩ := r
      obtain ⟨as, q, c, z⟩ := reads_d N n r hx
      obtain ⟨bs, q', c', z'⟩ := reads_ds N n rs hl
      exact ⟨_, .cons q q', by simp only [pyDs, PyData.canLayAll0, c, c', Bool.and_self], Nat.max_le.mpr ⟨z, z'⟩⟩
end
theorem off_nil {a : Addr} (o : Off φ H a) : Off [] H a := ⟨(fun q => nomatch q), o.2⟩
mutual
theorem dat_VR : ∀ {v : Value} {x : V} (n : Nat), VR CA FX news φ H v x -> isD n x -> VR CA FX news [] H v x
  | _, _, n, r, hd => by
    cases hd with
    | none => obtain rfl := r.none_e; exact .none
    | bool b => obtain rfl := r.bool_e; exact .bool b
    | int i => obtain ⟨t, rfl⟩ := r.int_e; exact .int i t
    | str l => obtain ⟨x, t, rfl, e, k⟩ := r.str_e; exact .str x t _ e k
    | tup hd => obtain ⟨_, _, _, rfl, mm, o, q, z⟩ := r.tup_e; exact .tup mm (off_nil o) (dat_VRs _ q hd) z
    | vls hd => obtain ⟨_, _, _, rfl, mm, o, q, z⟩ := r.vls_e; exact .vls mm (off_nil o) (dat_VRs _ q hd) z
theorem dat_VRs : ∀ {vs : List Value} {l : List V} (n : Nat), VRs CA FX news φ H vs l -> isDs n l -> VRs CA FX news [] H vs l
  | _, _, n, r, hd => by
    cases hd with
    | nil => obtain rfl := r.nil_e; exact .nil
    | cons hx hl => obtain ⟨_, _, rfl, q, rs⟩ := r.cons_e; exact .cons (dat_VR n q hx) (dat_VRs n rs hl)
end
theorem frz_tup_ {σ : Hp} {l : List V} : frz σ (.tup l) = (frzs σ l).elim none fun k => some (.tup k) := by
  show (match frzs σ l with | some l' => some (V.tup l') | Option.none => Option.none) = _
  cases frzs σ l <;> rfl
theorem frzs_cons_ {σ : Hp} {x : V} {l : List V} : frzs σ (x :: l) = (frz σ x).elim none fun y => (frzs σ l).elim none fun k => some (y :: k) := by
  show (match frz σ x with | some v' => (match frzs σ l with | some r' => some (v' :: r') | Option.none => Option.none) | Option.none => Option.none) = _
  cases frz σ x <;> cases frzs σ l <;> rfl
theorem elim_some {α β : Type} {o : Option α} {f : α -> Option β} {y : β} (e : o.elim none f = some y) : ∃ x, o = some x /\ f x = some y := by
  cases o with
  | none => cases e
  | some x => exact ⟨x, rfl, e⟩
theorem frzs_inv {σ : Hp} {x : V} {l k : List V} (e : frzs σ (x :: l) = some k) : ∃ y k', k = y :: k' /\ frz σ x = some y /\ frzs σ l = some k' := by
  rw [frzs_cons_] at e
  obtain ⟨y, hy, e⟩ := elim_some e
  obtain ⟨k', hk, e⟩ := elim_some e
  cases e
  exact ⟨y, k', rfl, hy, hk⟩
theorem frzs_len {σ : Hp} : ∀ {l k : List V}, frzs σ l = some k -> k.length = l.length := by
  intro l
  induction l with
  | nil => intro k e; cases e; rfl
  | cons x r ih =>
    intro k e
    obtain ⟨y, k', rfl, _, h⟩ := frzs_inv e
    exact congrArg (· + 1) (ih h)
theorem frz_lst_ {σ : Hp} {i : Nat} {y : V} (e : frz σ (.lst i) = some y) : ∃ k, y = .vls k /\ σ[i]? = some (.list k) := by
  revert e
  show (match lstAt σ i with | some l => some (V.vls l) | Option.none => Option.none) = _ -> _
  cases q : lstAt σ i with
  | none => exact nS
  | some l => exact fun e => ⟨l, (Option.some.inj e).symm, lstAt_e q⟩
noncomputable def FrzIs (σ : Hp) (y : V) : V -> Prop
  | .tup l => ∃ k, y = .tup k /\ frzs σ l = some k
  | .lst i => ∃ k, y = .vls k /\ σ[i]? = some (.list k)
  | x => x = y
set_option tactic.hygienic true
theorem frz_e {x y : V} (e : frz σ x = some y) : FrzIs σ y x := by
  cases x
  case tup l =>
    rw [frz_tup_] at e
    obtain ⟨k, hk, e⟩ := elim_some e
    exact ⟨k, (Option.some.inj e).symm, hk⟩
  case lst i => exact frz_lst_ e
  all_goals first | (cases e; done) | exact Option.some.inj e
theorem frz_flat {x y : V} (e : frz σ x = some y) (h1 : ∀ k, y ≠ .tup k) (h2 : ∀ k, y ≠ .vls k) : x = y := by
  have q := frz_e e
  cases x
  case tup l => obtain ⟨k, rfl, _⟩ := q; exact absurd rfl (h1 k)
  case lst i => obtain ⟨k, rfl, _⟩ := q; exact absurd rfl (h2 k)
  all_goals exact q
theorem frz_tup_e {x : V} {k : List V} (e : frz σ x = some (.tup k)) : ∃ l, x = .tup l /\ frzs σ l = some k := by
  have q := frz_e e
  cases x
  case tup l => obtain ⟨k, e, h⟩ := q; cases e; exact ⟨l, rfl, h⟩
  case lst i => obtain ⟨k, e, _⟩ := q; cases e
  all_goals cases q
theorem frz_vls_e {x : V} {k : List V} (e : frz σ x = some (.vls k)) : x = .vls k \/ ∃ i, x = .lst i /\ σ[i]? = some (.list k) := by
  have q := frz_e e
  cases x
  case tup l => obtain ⟨k, e, h⟩ := q; cases e
  case lst i => obtain ⟨k, e, h⟩ := q; cases e; exact .inr ⟨i, rfl, h⟩
  case vls l => exact .inl q
  all_goals cases q
set_option tactic.hygienic false
theorem frzs_nil {l : List V} (e : frzs σ l = some []) : l = [] := by
  cases l with
  | nil => rfl
  | cons x l => obtain ⟨_, _, e, _⟩ := frzs_inv e; cases e
theorem frzs_cons_e {l k : List V} {y : V} (e : frzs σ l = some (y :: k)) : ∃ x l', l = x :: l' /\ frz σ x = some y /\ frzs σ l' = some k := by
  cases l with
  | nil => cases e
  | cons x l => obtain ⟨_, _, e, h1, h2⟩ := frzs_inv e; cases e; exact ⟨x, l, rfl, h1, h2⟩
theorem frz_vls (S : Sim CA FX H h₀ L m h news φ σ) {v : Value} {x : V} {n : Nat} {k : List V} (r : VR CA FX news φ H v x) (e : frz σ x = some (.vls k)) (hd : isDs n k) : VR CA FX news [] H v (.vls k) := by
  rcases frz_vls_e e with rfl | ⟨i, rfl, hl⟩
  · exact dat_VR (n + 1) r (.vls hd)
  · obtain ⟨a, rfl, hi⟩ := r.lst_e
    obtain ⟨_, _, mm, q, z⟩ := (S.or_at hl hi).list_e
    exact .vls mm ⟨(fun q => nomatch q), S.φH _ (List.mem_of_getElem? hi)⟩ (dat_VRs _ q hd) z
mutual
theorem frz_VR (S : Sim CA FX H h₀ L m h news φ σ) : ∀ {v : Value} {x y : V} (n : Nat), VR CA FX news φ H v x -> frz σ x = some y -> isD n y -> VR CA FX news [] H v y
  | _, _, _, n, r, e, hd => by
    cases hd with
    | tup hd =>
      obtain ⟨l, rfl, hl⟩ := frz_tup_e e
      replace r := r.tup_e
      obtain ⟨_, _, _, rfl, mm, o, r, z⟩ := r
      exact .tup mm (off_nil o) (frzs_VR S _ r hl hd) (by rw [frzs_len hl]; exact z)
    | vls hd => exact frz_vls S r e hd
    | none => obtain rfl := frz_flat e nofun nofun; exact dat_VR n r .none
    | bool b => obtain rfl := frz_flat e nofun nofun; exact dat_VR n r (.bool b)
    | int i => obtain rfl := frz_flat e nofun nofun; exact dat_VR n r (.int i)
    | str l => obtain rfl := frz_flat e nofun nofun; exact dat_VR n r (.str l)
theorem frzs_VR (S : Sim CA FX H h₀ L m h news φ σ) : ∀ {vs : List Value} {l k : List V} (n : Nat), VRs CA FX news φ H vs l -> frzs σ l = some k -> isDs n k -> VRs CA FX news [] H vs k
  | _, _, _, n, r, e, hd => by
    cases hd with
    | nil => obtain rfl := frzs_nil e; obtain rfl := r.nil_e; exact .nil
    | cons hx hl =>
      obtain ⟨x, l', rfl, e1, e2⟩ := frzs_cons_e e
      replace r := r.cons_e
      obtain ⟨_, _, rfl, r, rs⟩ := r
      exact .cons (frz_VR S n r e1 hx) (frzs_VR S n rs e2 hl)
end
theorem reads_frz (S : Sim CA FX H h₀ L m h news φ σ) {v : Value} {x y : V} (n : Nat) (r : VR CA FX news φ H v x) (e : frz σ x = some y) (hd : isD n y) : ∃ as, Reads h v (pyD y) as /\ (pyD y).canLay0 = true /\ (pyD y).depth <= n := reads_d S.N n (frz_VR S n r e hd) hd
theorem shaped_of {d : PyData} (a : d.canLay0 = true) (b : d.depth <= 8) : SeqAt.shaped d = true := by
  unfold SeqAt.shaped
  rw [a, Bool.true_and]
  exact decide_eq_true (by omega)
end
theorem leq_mk (a b : N) : ((⟨⟨a⟩⟩ : Str) == ⟨⟨b⟩⟩) = leq a b := leq_str _ _
set_option tactic.hygienic true
mutual
theorem veq_eqv : ∀ (x y : V) (n k : Nat), isD n x -> isD k y -> PyData.eqv (pyD x) (pyD y) = veq x y
  | _, _, _, _, hx, hy => by
    cases hx with
    | none => cases hy <;> rfl
    | bool b => cases hy <;> rfl
    | int i => cases hy <;> rfl
    | str s =>
      cases hy
      case str t => exact leq_mk s t
      all_goals rfl
    | tup hx =>
      cases hy
      case tup hy => exact veqs_eqv _ _ _ _ hx hy
      all_goals rfl
    | vls hx =>
      cases hy
      case vls hy => exact veqs_eqv _ _ _ _ hx hy
      all_goals rfl
theorem veqs_eqv : ∀ (xs ys : List V) (n k : Nat), isDs n xs -> isDs k ys -> PyData.eqvAll (pyDs xs) (pyDs ys) = veqs xs ys
  | _, _, _, _, hx, hy => by
    cases hx with
    | nil => cases hy <;> rfl
    | cons hx hl =>
      cases hy
      case nil => rfl
      case cons hy hk =>
        simp only [pyDs, PyData.eqvAll, veqs]
        rw [veq_eqv _ _ _ _ hx hy, veqs_eqv _ _ _ _ hl hk]
end
section
variable {prog : Program} {w : World} {A : Around} {E : Value -> Shared -> Prop} {g : Array GenState} {d : Drawn} {os : OsState} {tk : Nat} {Q : Value -> Shared -> Prop}
variable {CA : ClsAt} {FX : Fix} {H : List Addr} {h₀ h h' : Heap} {L : Addr} {m m' : Str -> Option Value} {news news' : Led} {φ φ' : List Addr} {σ : Hp}
theorem eqW_rule (S : Sim CA FX H h₀ L m h news φ σ) {u v : Value} {a b : V} (ra : VR CA FX news φ H u a) (rb : VR CA FX news φ H v b) {P : Bool -> Prop} (hu : A.units + 64 < cLine)
    (hw : eqW σ a b P) (hQ : ∀ t, P t -> Q (.bool t) ⟨h, g, d, tk, os⟩) : wpAny (model prog w) A (compareOp .Eq u v) Q E ⟨h, g, d, tk, os⟩ := by
  unfold eqW at hw
  split at hw
  · rename_i x hx
    split at hw
    · rename_i y hy
      obtain ⟨dx, hw⟩ := ifB_isD hw
      obtain ⟨dy, p⟩ := ifB_isD hw
      obtain ⟨as, qa, ca, za⟩ := reads_frz S 8 ra hx dx
      obtain ⟨bs, qb, cb, zb⟩ := reads_frz S 8 rb hy dy
      refine eq_dataH (s := ⟨h, g, d, tk, os⟩) qa qb (shaped_of ca za) (shaped_of cb zb) hu ?_
      rw [veq_eqv x y 8 8 dx dy]
      exact hQ _ p
    · exact hw.elim
  · exact hw.elim
theorem neW_rule (S : Sim CA FX H h₀ L m h news φ σ) {u v : Value} {a b : V} (ra : VR CA FX news φ H u a) (rb : VR CA FX news φ H v b) {P : Bool -> Prop} (hu : A.units + 64 < cLine)
    (hw : eqW σ a b P) (hQ : ∀ t, P t -> Q (.bool (!t)) ⟨h, g, d, tk, os⟩) : wpAny (model prog w) A (compareOp .NotEq u v) Q E ⟨h, g, d, tk, os⟩ := by
  unfold eqW at hw
  split at hw
  · rename_i x hx
    split at hw
    · rename_i y hy
      obtain ⟨dx, hw⟩ := ifB_isD hw
      obtain ⟨dy, p⟩ := ifB_isD hw
      obtain ⟨as, qa, ca, za⟩ := reads_frz S 8 ra hx dx
      obtain ⟨bs, qb, cb, zb⟩ := reads_frz S 8 rb hy dy
      refine ne_dataH (s := ⟨h, g, d, tk, os⟩) qa qb (shaped_of ca za) (shaped_of cb zb) hu ?_
      rw [veq_eqv x y 8 8 dx dy]
      exact hQ _ p
    · exact hw.elim
  · exact hw.elim
theorem cmpW_rule (S : Sim CA FX H h₀ L m h news φ σ) {u v : Value} {a b : V} (ra : VR CA FX news φ H u a) (rb : VR CA FX news φ H v b) {op : CmpOp} {P : V -> Hp -> Prop} (hu : A.units + 64 < cLine)
    (hw : cmpW σ op a b P) (hQ : ∀ t, P (.bool t) σ -> Q (.bool t) ⟨h, g, d, tk, os⟩) : wpAny (model prog w) A (compareOp op u v) Q E ⟨h, g, d, tk, os⟩ := by
  unfold cmpW at hw
  split at hw
  · split at hw
    · exact eqW_rule S ra rb hu hw hQ
    · exact neW_rule S ra rb hu hw fun t ht => hQ _ ht
    · exact hw.elim
  · split at hw
    · rename_i t ht
      have q := hQ t hw
      cases cmp_inv ht with
      | eqI i j => obtain ⟨_, rfl⟩ := ra.int_e; obtain ⟨_, rfl⟩ := rb.int_e; exact eq_int q
      | eqS x' y' => obtain ⟨x, tx, rfl, ex, kx⟩ := ra.str_e; obtain ⟨y, ty, rfl, ey, ky⟩ := rb.str_e; subst ex; subst ey; exact eq_str (by rw [leq_str]; exact q)
      | neS x' y' => obtain ⟨x, tx, rfl, ex, kx⟩ := ra.str_e; obtain ⟨y, ty, rfl, ey, ky⟩ := rb.str_e; subst ex; subst ey; exact ne_str (by rw [bne, leq_str]; exact q)
      | gtI i j => obtain ⟨_, rfl⟩ := ra.int_e; obtain ⟨_, rfl⟩ := rb.int_e; exact gt_int q
      | geI i j => obtain ⟨_, rfl⟩ := ra.int_e; obtain ⟨_, rfl⟩ := rb.int_e; exact ge_int q
      | inT hl =>
        obtain ⟨x, tx, rfl, ex, kx⟩ := ra.str_e; obtain ⟨_, _, _, rfl, mm, o, r, _⟩ := rb.tup_e
        obtain ⟨ys, s1, s2, s3⟩ := strs_of r hl
        subst ex; subst s2
        exact in_tuple_strs (S.N.isTup mm) (by simpa using s1) (by rw [any_mem]; exact q)
      | niT hl =>
        obtain ⟨x, tx, rfl, ex, kx⟩ := ra.str_e; obtain ⟨_, _, _, rfl, mm, o, r, _⟩ := rb.tup_e
        obtain ⟨ys, s1, s2, s3⟩ := strs_of r hl
        subst ex; subst s2
        exact notin_tuple_strs (S.N.isTup mm) (by simpa using s1) (by rw [any_mem]; exact q)
      | inL hl hl' =>
        obtain ⟨a', vs, n, rfl, mm, r, z⟩ := items_at S rb hl
        obtain ⟨ys, s1, s2, s3⟩ := strs_of r hl'
        obtain ⟨x, tx, rfl, ex, kx⟩ := ra.str_e
        subst ex; subst s2
        exact in_list_strs (S.N.isList mm) s1 (by rw [any_mem]; exact q)
      | niL hl hl' =>
        obtain ⟨a', vs, n, rfl, mm, r, z⟩ := items_at S rb hl
        obtain ⟨ys, s1, s2, s3⟩ := strs_of r hl'
        obtain ⟨x, tx, rfl, ex, kx⟩ := ra.str_e
        subst ex; subst s2
        exact notin_list_strs (S.N.isList mm) s1 (by rw [any_mem]; exact q)
    · exact hw.elim
end
end Mine
end

section
open PySem PySem.W PyProof.Rows
namespace Mine
section
variable {prog : Program} {w : World} {A : Around} {E : Value -> Shared -> Prop} {g : Array GenState} {d : Drawn} {os : OsState} {tk : Nat} {Q : Value -> Shared -> Prop}
variable {CA : ClsAt} {FX : Fix} {H : List Addr} {h₀ h h' : Heap} {L : Addr} {m m' : Str -> Option Value} {news news' : Led} {φ φ' : List Addr} {σ : Hp}
noncomputable abbrev Kont (CA : ClsAt) (FX : Fix) (H : List Addr) (h₀ : Heap) (L : Addr) (m : Str -> Option Value) (g : Array GenState) (d : Drawn) (os : OsState) (news : Led) (φ : List Addr) (P : V -> Hp -> Prop) (Q : Value -> Shared -> Prop) : Prop :=
  ∀ x σ', P x σ' -> ∀ v h' tk' news' φ', Sim CA FX H h₀ L m h' news' φ' σ' -> Ext H news φ news' φ' -> VR CA FX news' φ' H v x -> Q v ⟨h', g, d, tk', os⟩
set_option tactic.hygienic false
theorem line_le : lineL <= sizeLine := by rw [sizeLine_eq]; decide
theorem okS_len {a b : N} (h : a.length + b.length <= 100000) : a.length + b.length <= sizeLine := Nat.le_trans h (by rw [sizeLine_eq]; decide)
set_option tactic.hygienic true
theorem bits_ok {m : Nat} (h : Nat.blt m 1048576 = true) : Builtin.Int.intBits (Int.ofNat m) <= 64 := by
  have hz := Nat.le_of_ble_eq_true h
  unfold Builtin.Int.intBits
  split
  · decide
  · rename_i h0
    have h1 : (Int.ofNat m).natAbs = m := rfl
    have hne : m ≠ 0 := fun e => by subst e; simp at h0
    rw [h1]
    have : m.log2 < 20 := (Nat.log2_lt hne).mpr (by omega)
    omega
theorem okC_e {a b : N} (h : okC a b = true) : a.length + b.length <= 1000 /\ okS (a ++ b) = true := by
  unfold okC at h
  split at h
  · rename_i z; exact ⟨Nat.le_of_ble_eq_true z, h⟩
  · cases h
set_option tactic.hygienic false
theorem binW_rule (S : Sim CA FX H h₀ L m h news φ σ) {u v : Value} {a b : V} (ra : VR CA FX news φ H u a) (rb : VR CA FX news φ H v b) {op : Operator} {P : V -> Hp -> Prop}
    (hw : binW σ op a b P) (hQ : Kont CA FX H h₀ L m g d os news φ P Q) : wpAny (model prog w) A (binaryOp op u v) Q E ⟨h, g, d, tk, os⟩ := by
  unfold binW at hw
  have same : ∀ {x : V} {v' : Value} {tk' : Nat}, P x σ -> VR CA FX news φ H v' x -> Q v' ⟨h, g, d, tk', os⟩ := fun p r => hQ _ _ p _ _ _ _ _ S (.refl _ _ _) r
  cases hb : binop σ op a b with
  | none => rw [hb] at hw; exact hw.elim
  | some x =>
    rw [hb] at hw
    cases bin_inv hb with
    | add i j => obtain ⟨_, rfl⟩ := ra.int_e; obtain ⟨_, rfl⟩ := rb.int_e; exact add_int (same hw (.int _ _))
    | sub i j => obtain ⟨_, rfl⟩ := ra.int_e; obtain ⟨_, rfl⟩ := rb.int_e; exact sub_int (same hw (.int _ _))
    | mod i k =>
      obtain ⟨_, rfl⟩ := ra.int_e; obtain ⟨_, rfl⟩ := rb.int_e
      exact mod_int' (fun e => nomatch e) (same hw (.int _ _))
    | mul m j z =>
      obtain ⟨_, rfl⟩ := ra.int_e; obtain ⟨_, rfl⟩ := rb.int_e
      exact mul_int (same hw (.int _ _)) (IntMulOk.of_left (bits_ok z))
    | str x' y' ok =>
      obtain ⟨x, tx, rfl, ex, kx⟩ := ra.str_e; obtain ⟨y, ty, rfl, ey, ky⟩ := rb.str_e
      obtain ⟨z, ok⟩ := okC_e ok
      subst ex; subst ey
      refine add_str (fun t' tk' => same hw (.str _ _ _ (Str.cps_append x y ▸ by simp) ok)) ?_
      exact okS_len (Nat.le_trans (by simpa [Str.length] using z) (by decide : 1000 <= 100000))
    | lst hl hr =>
      obtain ⟨a1, vs, n, rfl, mm, q, z⟩ := items_at S ra hl
      obtain ⟨a2, ws, k, rfl, mm', q', z'⟩ := items_at S rb hr
      refine add_arrays S.F S.N (S.N.isList mm) (S.N.isList mm') (fun h' F' N' => ?_) ?_
      · obtain ⟨S', ex⟩ := S.push (fun p hp => Heap.lt_size (S.N p hp).1) F' N'
        exact hQ _ _ (ifB_ble hw).2 _ _ _ _ _ S' ex (.vls (n := 0) (.head _) (off_new S fun p hp => Heap.lt_size (S.N p hp).1) ((q.append q').mono ex) (ifB_ble hw).1)
      · simp only [List.size_toArray]
        exact Nat.le_trans (Nat.add_le_add (q.length ▸ z) (q'.length ▸ z') : vs.length + ws.length <= lineL + lineL) (by rw [sizeLine_eq]; decide)
theorem getElem_lt {l : List V} {k : Nat} {x : V} (e : l[k]? = some x) : k < l.length := (List.getElem?_eq_some_iff.mp e).1
theorem listTail {value slice : PySem.Expr} {a : Addr} {l : List Value} {k : Int} {u : Tok} {x : Value} {s : Shared} (hl : s.heap.IsList a l.toArray) (h0 : 0 <= k) (hfit : k < 2 ^ 63) (hx : l[k.toNat]? = some x) (hq : Q x s)
    (hs : subscripted slice false (.ref a) (.int k u) = operate [.ref a, .int k u] (getItem (.ref a) (.int k u))) : wpAny (model prog w) A (subscriptTail value slice (.ref a) (.int k u)) Q E s :=
  tail_any hl.typeIs slot_list_getitem.lookup (getItem_listL hl h0 hfit hx hq) hs
theorem seqIndex_nn {k : Int} {n : Nat} (h0 : 0 <= k) (h : k.toNat < n) : seqIndex? k n = some k.toNat := by
  have h1 : ¬ k < 0 := by omega
  have h2 : (decide (0 <= k) && decide (k < (n : Int))) = true := by simp; omega
  simp only [seqIndex?, h1, if_false, h2, if_true]
theorem idx_fit {l : List V} {k : Int} (h : k.toNat < l.length) (z : l.length <= lineL) : k < 2 ^ 63 := by
  have : lineL = 4096 := rfl
  omega
theorem plainIdx_sub {e : PySem.Expr} (h : plainIdx e = true) (o i : Value) : subscripted e false o i = operate [o, i] (getItem o i) := by
  cases e <;> first | rfl | cases h
theorem itemW_rule (S : Sim CA FX H h₀ L m h news φ σ) {u v : Value} {a b x : V} (ra : VR CA FX news φ H u a) (rb : VR CA FX news φ H v b) {value slice : PySem.Expr} (hp : plainIdx slice = true) {P : V -> Hp -> Prop}
    (hsd : ∀ (d' : Addr) (o : Obj) (ks : List N) (l : List V) (s : N) (y : V) (k : Str) (t : Tok), (d', o) ∈ news -> FX.sd o ks l -> (d' == sysModules) = false -> k.cps.toList = s -> look ks l s = some y ->
      (∀ w' tk', VR CA FX news φ H w' y -> Q w' ⟨h, g, d, tk', os⟩) -> wpAny (model prog w) A (subscriptTail value slice (.ref d') (.str k t)) Q E ⟨h, g, d, tk, os⟩)
    (hi : itemF σ a b = some x) (hw : P x σ) (hQ : Kont CA FX H h₀ L m g d os news φ P Q) : wpAny (model prog w) A (subscriptTail value slice u v) Q E ⟨h, g, d, tk, os⟩ := by
  have same : ∀ {v' : Value} {tk' : Nat}, VR CA FX news φ H v' x -> Q v' ⟨h, g, d, tk', os⟩ := fun r => hQ _ _ hw _ _ _ _ _ S (.refl _ _ _) r
  rcases itemF_e hi with ⟨k, l, rfl, hl, k0, ke⟩ | ⟨s, ks, vs, rfl, rfl, e⟩
  · obtain ⟨t, rfl⟩ := rb.int_e
    have lt := getElem_lt ke
    rcases hl with rfl | hl
    · obtain ⟨_, _, _, rfl, mm, o, r, z⟩ := ra.tup_e
      obtain ⟨y, hy, ry⟩ := r.get ke
      exact item_tupleT (s := ⟨h, g, d, tk, os⟩) (S.N.isTup mm) (Int.le_trans (by decide) k0) (idx_fit lt z) (j := _) (seqIndex_nn k0 (by rw [r.length]; exact lt)) hy (same ry) (plainIdx_sub hp _ _)
    · obtain ⟨a', vs, n, rfl, mm, r, z⟩ := items_at S ra hl
      obtain ⟨y, hy, ry⟩ := r.get ke
      exact listTail (s := ⟨h, g, d, tk, os⟩) (S.N.isList mm) k0 (idx_fit lt z) hy (same ry) (plainIdx_sub hp _ _)
  · obtain ⟨_, _, rfl, mm, o, f, s⟩ := ra.sdct_e
    obtain ⟨k, t, rfl, e', ok⟩ := rb.str_e
    exact hsd _ _ _ _ _ _ _ _ mm f s e' e fun w' tk' r => same r
end
end Mine
end

section
open PySem PySem.W PyProof.Rows
namespace Mine
structure KOk (K : Frag) (CA : ClsAt) : Prop where
  get : ∀ c C, CA c = some C -> ∀ x : Str, plainGet K C x = true
  hd : ∀ c C, CA c = some C -> hasDictIn K C = true
  attr : ∀ c C, CA c = some C -> ∀ x : Str, memN attrNs x.cps.toList = true -> findIn K (.ref C) x = some none
  sat : ∀ c C, CA c = some C -> findIn K (.ref C) "__setattr__" = some (some (.builtin "object.__setattr__"))
  over : ∀ c C, CA c = some C -> plainOver K C = true
  tak : ∀ c C, CA c = some C -> ∀ x : Str, memN attrNs x.cps.toList = true -> takerIn K C x = some none
section
variable {prog : Program} {w : World} {K : Frag} {A : Around} {E : Value -> Shared -> Prop} {g : Array GenState} {d : Drawn} {os : OsState} {tk : Nat} {Q : Value -> Shared -> Prop}
variable {CA : ClsAt} {FX : Fix} {H : List Addr} {h₀ h h' : Heap} {L : Addr} {m m' : Str -> Option Value} {news news' : Led} {φ φ' : List Addr} {σ : Hp}
set_option tactic.hygienic false
theorem handed_VR {v : Value} {x : V} (r : VR CA FX news φ H v x) : handedIn v = true := by cases r <;> rfl
theorem getL_skip {x : Str} {e : DictEntry} {es : List DictEntry} {u : Value} (h : e.key.isStr x = false) (hr : e.refKey = false) (a : getL x es = some (some u)) : getL x (e :: es) = some (some u) := by
  unfold getL at a ⊢
  rw [List.find?_cons, h]
  dsimp only
  cases hf : es.find? (·.key.isStr x) with
  | some en' => rw [hf] at a; exact a
  | none => rw [hf] at a; rw [List.any_cons, hr]; exact a
theorem getL_of {es : List DictEntry} {ks : List N} {l : List V} (r : VFs CA FX news φ H es ks l) {x : Str} {y : V} (e : look ks l x.cps.toList = some y) : ∃ v, getL x es = some (some v) /\ VR CA FX news φ H v y := by
  induction es generalizing ks l with
  | nil => obtain ⟨rfl, rfl⟩ := r.left_nil; exact nS e
  | cons en es ih =>
    · obtain ⟨hh, s, t, v, k, z, ks', l', rfl, rfl, rfl, hk, rv, rs⟩ := r.left_cons
      have his : (⟨hh, Value.str s t, v⟩ : DictEntry).key.isStr x = leq k x.cps.toList := by
        show (s == x) = _
        rw [leq_str, hk]
      rcases look_e e with ⟨hq, rfl⟩ | ⟨hq, e⟩
      · exact ⟨v, by unfold getL; rw [List.find?_cons, his, hq], rv⟩
      · obtain ⟨u, a, b⟩ := ih rs e
        exact ⟨u, getL_skip (his.trans hq) rfl a, b⟩
theorem getL_some {es : List DictEntry} {ks : List N} {l : List V} (r : VFs CA FX news φ H es ks l) (x : Str) : (getL x es).isSome = true := by
  have hany : es.any (·.refKey) = false := by
    induction es generalizing ks l with
    | nil => rfl
    | cons en es ih =>
      obtain ⟨hh, s, t, v, k, z, ks', l', rfl, rfl, rfl, hk, rv, rs⟩ := r.left_cons
      rw [List.any_cons, ih rs]; rfl
  unfold getL
  split
  · rfl
  · rw [hany]; rfl
theorem VFs.len {es : List DictEntry} {ks : List N} {l : List V} (r : VFs CA FX news φ H es ks l) : es.length = ks.length /\ ks.length = l.length := by
  induction es generalizing ks l with
  | nil => obtain ⟨rfl, rfl⟩ := r.left_nil; exact ⟨rfl, rfl⟩
  | cons en es ih =>
    obtain ⟨hh, s, t, v, k, z, ks', l', rfl, rfl, rfl, hk, rv, rs⟩ := r.left_cons
    exact ⟨congrArg (· + 1) (ih rs).1, congrArg (· + 1) (ih rs).2⟩
theorem VFs.put {es : List DictEntry} {ks : List N} {l : List V} (r : VFs CA FX news φ H es ks l) {x : Str} {hh : Int} {t : Tok} {v : Value} {y : V} (rv : VR CA FX news φ H v y) :
    VFs CA FX news φ H (putL x hh (.str x t) v es) (putK ks x.cps.toList) (putV ks l x.cps.toList y) := by
  induction es generalizing ks l with
  | nil => obtain ⟨rfl, rfl⟩ := r.left_nil; exact .cons rfl rv .nil
  | cons en es ih =>
    · obtain ⟨h2, s, t2, v2, k, z, ks', l', rfl, rfl, rfl, hk, r2, rs⟩ := r.left_cons
      have his : (⟨h2, Value.str s t2, v2⟩ : DictEntry).key.isStr x = leq k x.cps.toList := by
        show (s == x) = _
        rw [leq_str, hk]
      simp only [putL, putK, putV, his]
      cases hq : leq k x.cps.toList with
      | true => exact .cons hk rv rs
      | false => exact .cons hk r2 (ih rs)
theorem attrG_rule (KO : KOk K CA) (X₀ : K.In h₀) (S : Sim CA FX H h₀ L m h news φ σ) {u : Value} {a x : V} (ra : VR CA FX news φ H u a) {f : Str} {expr : Bool} {P : V -> Hp -> Prop}
    (ha : attrF σ a f.cps.toList = some x) (hw : P x σ) (hQ : Kont CA FX H h₀ L m g d os news φ P Q) : wpAny (model prog w) A (getAttr u f expr) Q E ⟨h, g, d, tk, os⟩ := by
  obtain ⟨hin, ha⟩ := attrF_e ha
  rcases attrG_e ha with ⟨c, i, ks, vs, rfl, hs, ha⟩ | ⟨c, ks, vs, rfl, ha⟩
  · obtain ⟨_, _, _, rfl, hC, mm, o, hi⟩ := ra.obj_e
    obtain ⟨_, _, m2, r⟩ := (S.or_at hs hi).inst_e
    obtain ⟨v, hv, rv⟩ := getL_of r ha
    exact get_own (s := ⟨h, g, d, tk, os⟩) (ox := instObj _ _) S.F X₀ (InstAt.of_news S.N mm m2) (KO.get _ _ hC f) (KO.hd _ _ hC) (KO.attr _ _ hC f hin) rfl hv (handed_VR rv) (hQ _ _ hw _ _ _ _ _ S (.refl _ _ _) rv)
  · obtain ⟨_, _, _, _, _, rfl, hC, mm, o, m2, o2, r⟩ := ra.ins_e
    obtain ⟨v, hv, rv⟩ := getL_of r ha
    exact get_own (s := ⟨h, g, d, tk, os⟩) (ox := instObj _ _) S.F X₀ (InstAt.of_news S.N mm m2) (KO.get _ _ hC f) (KO.hd _ _ hC) (KO.attr _ _ hC f hin) rfl hv (handed_VR rv) (hQ _ _ hw _ _ _ _ _ S (.refl _ _ _) rv)
noncomputable abbrev KontU (CA : ClsAt) (FX : Fix) (H : List Addr) (h₀ : Heap) (L : Addr) (m : Str -> Option Value) (g : Array GenState) (d : Drawn) (os : OsState) (news : Led) (φ : List Addr) (P : Hp -> Prop) (Q : Unit -> Shared -> Prop) : Prop :=
  ∀ σ', P σ' -> ∀ h' tk' news' φ', Sim CA FX H h₀ L m h' news' φ' σ' -> Ext H news φ news' φ' -> Q () ⟨h', g, d, tk', os⟩
theorem putL_len2 (x : Str) (hh : Int) (k v : Value) : ∀ es : List DictEntry, (putL x hh k v es).length <= es.length + 1
  | [] => by simp [putL]
  | e :: r => by
    have := putL_len2 x hh k v r
    unfold putL
    split <;> simp <;> omega
theorem setA_rule (KO : KOk K CA) (X₀ : K.In h₀) (S : Sim CA FX H h₀ L m h news φ σ) {a C dd : Addr} {c : N} {i : Nat} {es : List DictEntry} {n : Nat} {ks : List N} {l : List V} {ao : (List DictEntry) -> Nat -> AObj}
    (hC : CA c = some C) (mm : (a, instObj C dd) ∈ news) (hi : φ[i]? = some dd) (m2 : (dd, dictOf es n) ∈ news) (r : VFs CA FX news φ H es ks l) (hl : ks.length <= 20)
    {f : Str} (hin : memN attrNs f.cps.toList = true) {v : Value} {y : V} (rv : VR CA FX news φ H v y) {Q : Unit -> Shared -> Prop}
    (hQ : ∀ h' tk' es' n', Fr h₀ L h' m -> News h₀ L h' (updL dd (dictOf es' n') news) -> VFs CA FX (updL dd (dictOf es' n') news) φ H es' (putK ks f.cps.toList) (putV ks l f.cps.toList y) -> (dd, dictOf es' n') ∈ updL dd (dictOf es' n') news -> Q () ⟨h', g, d, tk', os⟩) :
    wpAny (model prog w) A (setAttr (.ref a) f v) Q E ⟨h, g, d, tk, os⟩ := by
  have ma : dd ∈ φ := List.mem_of_getElem? hi
  refine set_dict (s := ⟨h, g, d, tk, os⟩) (ox := instObj C dd) S.F X₀ S.N (InstAt.of_news S.N mm m2) rfl (KO.sat _ _ hC) (KO.over _ _ hC) (KO.tak _ _ hC f hin) (KO.hd _ _ hC) (getL_some r f) rfl (updL_upd S.nd m2) ?_ (fun h' F' N' => ?_)
  · exact Nat.le_trans (putL_len2 _ _ _ _ es) (by have := r.len; omega)
  · exact hQ h' _ _ _ F' N' ((r.put rv).mono (.upd (.inl ma))) (updL_self m2)
theorem slicePick_l (vs : List Value) (n : Nat) (hn : n <= vs.length) : slicePick (List.toArray vs) (some (.ofNat n)) none none = List.toArray (vs.drop n) := by
  have := slicePick_from (List.toArray vs) n (by simpa using hn)
  simpa using this
theorem slicePick_u (vs : List Value) (n : Nat) (hn : n <= vs.length) : slicePick (List.toArray vs) none (some (.ofNat n)) none = List.toArray (vs.take n) := by
  have := slicePick_upto (List.toArray vs) n (by simpa using hn)
  simpa using this
theorem sliceW_rule (S : Sim CA FX H h₀ L m h news φ σ) {u lo hi : Value} {a la ha : V} (ra : VR CA FX news φ H u a) (rl : VR CA FX news φ H lo la) (rh : VR CA FX news φ H hi ha)
    {value : PySem.Expr} {q : Pos} {e1 e2 : Option PySem.Expr} {P : V -> Hp -> Prop} (hw : sliceW σ a la ha P) (hQ : Kont CA FX H h₀ L m g d os news φ P Q) :
    wpAny (model prog w) A (subscriptTail value (.Slice e1 e2 none q) u (.ref h.objs.size)) Q E
      ⟨h.push { cls := .type "slice", data := .fields #[lo, hi, .none] }, g, d, tk, os⟩ := by
  refine kba_turn (value' := PySem.Expr.Name (PySem.Str.ofString "_") ⟨0, 0, 0, 0⟩) (fun _ => rfl) ?_
  obtain ⟨l, hl, hw⟩ := sliceW_e hw
  obtain ⟨a', vs, n, rfl, mm, r, z⟩ := items_at S ra hl
  have z2 : (List.toArray vs).size <= sizeLine := by rw [List.size_toArray, r.length]; exact Nat.le_trans z line_le
  have hf : ∀ p ∈ news, p.1 < h.objs.size + 1 := fun p hp => Nat.lt_succ_of_lt (Heap.lt_size (S.N p hp).1)
  rcases sliceL_e hw with ⟨k, rfl, rfl, kl, hw⟩ | ⟨k, rfl, rfl, kl, hw⟩
  · obtain rfl := rl.none_e
    obtain ⟨_, rfl⟩ := rh.int_e
    refine slice_list (s := ⟨h, g, d, tk, os⟩) S.F S.N (S.N.isList mm) .none (.int _ _) (fun h' F' N' => ?_) rfl (fun _ => rfl) z2
    rw [slicePick_u vs k (by rw [r.length]; exact kl)] at N'
    obtain ⟨S', ex⟩ := S.push hf F' N'
    exact hQ _ _ hw _ _ _ _ _ S' ex (.vls (n := 0) (.head _) (off_new S hf) ((r.take k).mono ex) (by rw [List.length_take]; exact Nat.le_trans (Nat.min_le_right _ _) z))
  · obtain rfl := rh.none_e
    obtain ⟨_, rfl⟩ := rl.int_e
    refine slice_list (s := ⟨h, g, d, tk, os⟩) S.F S.N (S.N.isList mm) (.int _ _) .none (fun h' F' N' => ?_) rfl (fun _ => rfl) z2
    rw [slicePick_l vs k (by rw [r.length]; exact kl)] at N'
    obtain ⟨S', ex⟩ := S.push hf F' N'
    exact hQ _ _ hw _ _ _ _ _ S' ex (.vls (n := 0) (.head _) (off_new S hf) ((r.drop k).mono ex) (by rw [List.length_drop]; exact Nat.le_trans (Nat.sub_le _ _) z))
theorem append_rule (S : Sim CA FX H h₀ L m h news φ σ) {a : Addr} {i : Nat} {l : List V} {v : Value} {y : V} (hi : φ[i]? = some a) (hs : σ[i]? = some (.list l)) (rv : VR CA FX news φ H v y) (hl : l.length < 4096) {P : V -> Hp -> Prop}
    (hw : P .none (σ.set i (.list (l ++ [y])))) (hQ : Kont CA FX H h₀ L m g d os news φ P Q) : wpAny (model prog w) A (call (.builtin "list.append") [.ref a, v]) Q E ⟨h, g, d, tk, os⟩ := by
  obtain ⟨vs, n, mm, r, z⟩ := (S.or_at hs hi).list_e
  have ma : a ∈ φ := List.mem_of_getElem? hi
  refine append_K (s := ⟨h, g, d, tk, os⟩) S.F S.N (updL_upd S.nd mm) (fun h' F' N' => ?_) (by rw [List.size_toArray, r.length]; exact Nat.le_trans z line_le)
  have ex : Ext H news φ (updL a (listOf ((List.toArray vs).push v) (n + 1)) news) φ := .upd (.inl ma)
  obtain ⟨S', _⟩ := S.upd (ao := .list (l ++ [y])) hi F' N' (.list (vs := vs ++ [v]) (n := n + 1) (by rw [<- List.push_toArray]; exact updL_self mm) ((r.append (.cons rv .nil)).mono ex) (by rw [List.length_append]; exact hl))
  exact hQ _ _ hw _ _ _ _ _ S' ex .none
set_option tactic.hygienic true
theorem newTup_rule (S : Sim CA FX H h₀ L m h news φ σ) {vs : List Value} {l : List V} (r : VRs CA FX news φ H vs l) {P : V -> Hp -> Prop} (hw : fits l (P (.tup l) σ)) (hQ : Kont CA FX H h₀ L m g d os news φ P Q) :
    wpAny (model prog w) A (newTuple vs) Q E ⟨h, g, d, tk, os⟩ := by
  unfold fits at hw
  split at hw
  · rename_i z
    have hz : l.length <= 64 := Nat.le_of_ble_eq_true z
    refine newTuple_N (s := ⟨h, g, d, tk, os⟩) S.F S.N (fun h' F' N' => ?_) (by rw [r.length]; exact Nat.le_trans hz (by rw [sizeLine_eq]; decide))
    have hf : ∀ p ∈ news, p.1 < h.objs.size := fun p hp => Heap.lt_size (S.N p hp).1
    obtain ⟨S', ex⟩ := S.push hf F' N'
    exact hQ _ _ hw _ _ _ _ _ S' ex (.tup (n := 0) (.head _) (off_new S hf) (r.mono ex) (by show l.length <= 4096; omega))
  · exact hw.elim
theorem newLst_rule (S : Sim CA FX H h₀ L m h news φ σ) {vs : List Value} {l : List V} (r : VRs CA FX news φ H vs l) {P : V -> Hp -> Prop} (hw : fits l (P (.vls l) σ)) (hQ : Kont CA FX H h₀ L m g d os news φ P Q) :
    wpAny (model prog w) A (newList vs) Q E ⟨h, g, d, tk, os⟩ := by
  unfold fits at hw
  split at hw
  · rename_i z
    have hz : l.length <= 64 := Nat.le_of_ble_eq_true z
    refine newList_K (s := ⟨h, g, d, tk, os⟩) S.F S.N (fun a h' F' N' hf => ?_) (by rw [r.length]; exact Nat.le_trans hz (by rw [sizeLine_eq]; decide))
    obtain ⟨S', ex⟩ := S.push hf F' N'
    exact hQ _ _ hw _ _ _ _ _ S' ex (.vls (n := 0) (.head _) (off_new S hf) (r.mono ex) (by show l.length <= 4096; omega))
  · exact hw.elim
theorem newMut_rule (S : Sim CA FX H h₀ L m h news φ σ) {vs : List Value} {l : List V} (r : VRs CA FX news φ H vs l) {P : V -> Hp -> Prop} (hw : fits l (P (.lst σ.length) (σ ++ [.list l]))) (hQ : Kont CA FX H h₀ L m g d os news φ P Q) :
    wpAny (model prog w) A (newList vs) Q E ⟨h, g, d, tk, os⟩ := by
  unfold fits at hw
  split at hw
  · rename_i z
    have hz : l.length <= 64 := Nat.le_of_ble_eq_true z
    refine newList_K (s := ⟨h, g, d, tk, os⟩) S.F S.N (fun a h' F' N' hf => ?_) (by rw [r.length]; exact Nat.le_trans hz (by rw [sizeLine_eq]; decide))
    have ex : Ext H news φ ((a, listOf (List.toArray vs) 0) :: news) (φ ++ [a]) := ⟨⟨[a], rfl⟩, fun p hp h1 _ => ⟨.tail _ hp, fun q => by
      rcases List.mem_append.mp q with q | q
      · exact h1 q
      · have := List.mem_singleton.mp q
        exact absurd (hf p hp) (by rw [this]; exact Nat.lt_irrefl _)⟩⟩
    obtain ⟨S', _⟩ := S.pushM (ao := .list l) hf F' N' (.list (.head _) (r.mono ex) (by show l.length <= 4096; omega))
    exact hQ _ _ hw _ _ _ _ _ S' ex (.lst (by rw [<- S.φl]; simp))
  · exact hw.elim
end
end Mine
end

section
open PySem PySem.W PyProof.Rows
namespace Mine
noncomputable def dctD (l : List (N × N × N)) : List (PyData × PyData) := l.map fun x => (.tuple [.str ⟨⟨x.1⟩⟩, .str ⟨⟨x.2.1⟩⟩], .str ⟨⟨x.2.2⟩⟩)
noncomputable def okVs (l : List V) : Prop := ∀ s, V.str s ∈ l -> okS s = true
noncomputable def FX0 (prog : Program) (w : World) (pin : Led) : Fix where
  pin := pin
  sd o ks l := ∃ kvs D, Obj.IsDictOf (PySem.strKind prog w) o kvs /\ PyProof.V.FlatPairs PyData.str kvs D /\ flatP ks l = some D /\ okVs l
  td nw a l := TupTab (PySem.strKind prog w) PyData.str nw a (dctD l) /\ (∀ x ∈ l, okS x.2.2 = true) /\ ∀ p ∈ nw, p.2.cls = .type "dict" \/ p.2.cls = .type "tuple"
section
variable {prog : Program} {w : World} {pin : Led} {A : Around} {E : Value -> Shared -> Prop} {g : Array GenState} {d : Drawn} {os : OsState} {tk : Nat} {Q : Value -> Shared -> Prop}
variable {CA : ClsAt} {H : List Addr} {h₀ h h' : Heap} {L : Addr} {m m' : Str -> Option Value} {news news' : Led} {φ φ' : List Addr} {σ : Hp}
set_option tactic.hygienic false
theorem flat_VR {FX : Fix} {v : Value} {d : PyData} {x : V} (f : PyProof.V.Flat v d) (e : flatD x = some d) (ok : ∀ s, x = .str s -> okS s = true) : VR CA FX news φ H v x := by
  cases x with
  | str s =>
    simp only [flatD, Option.some.injEq] at e
    subst e
    have := f default
    cases this
    exact .str _ _ _ rfl (ok s rfl)
  | int i =>
    simp only [flatD, Option.some.injEq] at e
    subst e
    have := f default
    cases this
    exact .int _ _
  | _ => simp [flatD] at e
theorem same_mk (x : Str) (k : N) : Spec.same (PyData.str ⟨⟨k⟩⟩) (PyData.str x) = leq k x.cps.toList := by
  rw [PyProof.V.same_str]
  rw [Bool.eq_iff_iff, leq_iff, decide_eq_true_iff]
  exact ⟨fun e => by rw [<- e], fun e => str_ext e⟩
theorem lookup_t {a x y : PyData} {D : List (PyData × PyData)} (h : Spec.same a x = true) : Spec.lookup x ((a, y) :: D) = some y := by
  show (if Spec.same a x = true then some y else Spec.lookup x D) = _
  rw [if_pos h]
theorem lookup_f {a x y : PyData} {D : List (PyData × PyData)} (h : Spec.same a x = false) : Spec.lookup x ((a, y) :: D) = Spec.lookup x D := by
  show (if Spec.same a x = true then some y else Spec.lookup x D) = _
  rw [if_neg (by rw [h]; exact nofun)]
theorem flatP_look {ks : List N} : ∀ {l : List V} {D : List (PyData × PyData)} {x : Str} {y : V}, flatP ks l = some D -> look ks l x.cps.toList = some y -> ∃ dv, Spec.lookup (.str x) D = some dv /\ flatD y = some dv := by
  induction ks with
  | nil => intro l D x y _ q; cases l <;> cases q
  | cons k ks ih =>
    intro l D x y e q
    cases l with
    | nil => cases e
    | cons v vs =>
      obtain ⟨dv, r, hd, hr, rfl⟩ := flatP_e e
      rcases look_e q with ⟨hk, rfl⟩ | ⟨hk, q⟩
      · exact ⟨dv, lookup_t ((same_mk x k).trans hk), hd⟩
      · rw [lookup_f ((same_mk x k).trans hk)]; exact ih hr q
theorem flatP_none {ks : List N} : ∀ {l : List V} {D : List (PyData × PyData)} {x : Str}, flatP ks l = some D -> look ks l x.cps.toList = none -> Spec.lookup (.str x) D = none := by
  induction ks with
  | nil => intro l D x e _; cases l <;> cases e; rfl
  | cons k ks ih =>
    intro l D x e q
    cases l with
    | nil => cases e
    | cons v vs =>
      obtain ⟨dv, r, hd, hr, rfl⟩ := flatP_e e
      cases hk : leq k x.cps.toList with
      | true => rw [look_t hk] at q; cases q
      | false => rw [look_f hk] at q; rw [lookup_f ((same_mk x k).trans hk)]; exact ih hr q
theorem look_mem {ks : List N} : ∀ {l : List V} {x : N} {y : V}, look ks l x = some y -> y ∈ l := by
  induction ks with
  | nil => intro l x y e; cases l <;> cases e
  | cons k ks ih =>
    intro l x y e
    cases l with
    | nil => cases e
    | cons v vs =>
      rcases look_e e with ⟨_, rfl⟩ | ⟨_, e⟩
      · exact .head _
      · exact .tail _ (ih e)
theorem sd_tab (N : News h₀ L h news) {a : Addr} {o : Obj} (mm : (a, o) ∈ news) (s : (a == sysModules) = false) {kvs : List (Str × Value)} {D : List (PyData × PyData)}
    (hd : Obj.IsDictOf (PySem.strKind prog w) o kvs) (hf : PyProof.V.FlatPairs PyData.str kvs D) : TabAt (PySem.strKind prog w) PyData.str h a D :=
  ⟨s, kvs, Heap.dictOf_iff.mpr ⟨o, N.get mm, hd⟩, hf⟩
end
section
variable {prog : Program} {w : World} {pin : Led} {A : Around} {E : Value -> Shared -> Prop} {g : Array GenState} {d : Drawn} {os : OsState} {tk : Nat} {Q : Value -> Shared -> Prop}
variable {CA : ClsAt} {H : List Addr} {h₀ h h' : Heap} {L : Addr} {m m' : Str -> Option Value} {news news' : Led} {φ φ' : List Addr} {σ : Hp}
theorem len_rule {FX : Fix} (S : Sim CA FX H h₀ L m h news φ σ) {u : Value} {a : V} (ra : VR CA FX news φ H u a) {l : List V} {P : V -> Hp -> Prop} (e : a = .tup l \/ items σ a = some l) (hw : P (.int l.length) σ) (hQ : Kont CA FX H h₀ L m g d os news φ P Q) :
    wpAny (model prog w) A (call (.builtin "len") [u]) Q E ⟨h, g, d, tk, os⟩ := by
  have fit : ∀ {vs : List Value}, VRs CA FX news φ H vs l -> l.length <= lineL -> ((List.toArray vs).size : Int) < 2 ^ 63 := fun r z => by
    rw [List.size_toArray, r.length]
    exact Int.ofNat_lt.mpr (Nat.lt_of_le_of_lt z (by decide : lineL < 2 ^ 63))
  have fin : ∀ {vs : List Value} {t : Tok} {tk' : Nat}, VRs CA FX news φ H vs l -> Q (.int (List.toArray vs).size t) ⟨h, g, d, tk', os⟩ := fun r => by
    rw [List.size_toArray, r.length]
    exact hQ _ _ hw _ _ _ _ _ S (.refl _ _ _) (.int _ _)
  rcases e with rfl | hl
  · obtain ⟨_, _, _, rfl, mm, o, r, z⟩ := ra.tup_e
    exact len_tuple (s := ⟨h, g, d, tk, os⟩) (S.N.isTup mm) (fit r z) (fin r)
  · obtain ⟨a', vs, n, rfl, mm, r, z⟩ := items_at S ra hl
    exact PySem.Calls.call_len_list (s := ⟨h, g, d, tk, os⟩) (S.N.isList mm) (fit r z) (fin r)
theorem max_rule {FX : Fix} (S : Sim CA FX H h₀ L m h news φ σ) (hh : A.handled = none) {i j : Int} {t u : Tok} {P : V -> Hp -> Prop} (hw : P (.int (if i < j then j else i)) σ) (hQ : Kont CA FX H h₀ L m g d os news φ P Q) :
    wpAny (model prog w) A (call (.builtin "max") [.int i t, .int j u]) Q E ⟨h, g, d, tk, os⟩ :=
  max_two_N (s := ⟨h, g, d, tk, os⟩) hh S.F S.N fun h' tk' F' N' => hQ _ _ hw _ _ _ _ _ (S.frame F' N') (.refl _ _ _) (.int _ _)
theorem news_keep (S : News h₀ L h news) {a : Addr} {o : Obj} (F : Fr h₀ L h m) (N' : News h₀ L h' news) (ha : a = h.objs.size) (ho : h'.get? a = some o) : News h₀ L h' ((a, o) :: news) := fun p hp => by
  rcases List.mem_cons.mp hp with rfl | hp
  · subst ha
    refine ⟨ho, Nat.ne_of_gt F.ns.lt, ?_⟩
    cases e : h₀.get? h.objs.size with
    | none => rfl
    | some o => exact absurd (Heap.lt_size (F.keep _ _ e)) (Nat.lt_irrefl _)
  · exact N' p hp
theorem range1_rule {FX : Fix} (S : Sim CA FX H h₀ L m h news φ σ) {j : Int} {t : Tok} {P : V -> Hp -> Prop} (hw : P (.rng 0 j) σ) (hQ : Kont CA FX H h₀ L m g d os news φ P Q) :
    wpAny (model prog w) A (call (.type "range") [.int j t]) Q E ⟨h, g, d, tk, os⟩ :=
  range1_rows (s := ⟨h, g, d, tk, os⟩) S.F S.N fun h' tk' t₁ u₁ v₁ hr F' N' _ => by
    have N2 := news_keep S.N S.F N' rfl hr
    have hf : ∀ p ∈ news, p.1 < h.objs.size := fun p hp => Heap.lt_size (S.N p hp).1
    obtain ⟨S', ex⟩ := S.push hf F' N2
    exact hQ _ _ hw _ _ _ _ _ S' ex (.rng (.head _) (off_new S hf))
theorem range2_rule {FX : Fix} (S : Sim CA FX H h₀ L m h news φ σ) {i j : Int} {t u : Tok} {P : V -> Hp -> Prop} (hw : P (.rng i j) σ) (hQ : Kont CA FX H h₀ L m g d os news φ P Q) :
    wpAny (model prog w) A (call (.type "range") [.int i t, .int j u]) Q E ⟨h, g, d, tk, os⟩ :=
  range2_rows (s := ⟨h, g, d, tk, os⟩) S.F S.N fun h' tk' t₁ u₁ v₁ hr F' N' _ => by
    have N2 := news_keep S.N S.F N' rfl hr
    have hf : ∀ p ∈ news, p.1 < h.objs.size := fun p hp => Heap.lt_size (S.N p hp).1
    obtain ⟨S', ex⟩ := S.push hf F' N2
    exact hQ _ _ hw _ _ _ _ _ S' ex (.rng (.head _) (off_new S hf))
theorem list_rule {FX : Fix} (S : Sim CA FX H h₀ L m h news φ σ) {u : Value} {a : V} {l : List V} (ra : VR CA FX news φ H u a) (e : items σ a = some l) {P : V -> Hp -> Prop} (hw : P (.vls l) σ) (hQ : Kont CA FX H h₀ L m g d os news φ P Q) :
    wpAny (model prog w) A (call (.type "list") [u]) Q E ⟨h, g, d, tk, os⟩ := by
  obtain ⟨a', vs, n, rfl, mm, r, z⟩ := items_at S ra e
  refine list_copyK (s := ⟨h, g, d, tk, os⟩) (items := List.toArray vs) S.F S.N (S.N.isList mm) (fun D c h' F' N' hf => ?_) (by rw [List.size_toArray, r.length]; exact Nat.le_trans z line_le)
  have N2 : News h₀ L h' ((D, listOf vs.toArray c) :: news) := N'
  obtain ⟨S', ex⟩ := S.push hf F' N2
  exact hQ _ _ hw _ _ _ _ _ S' ex (.vls (.head _) (off_new S hf) (r.mono ex) z)
theorem ltN_lt : ∀ a b : N, ltN a b = decide (a < b)
  | [], [] => by simp [ltN]
  | [], _ :: _ => by simp [ltN]
  | _ :: _, [] => by simp [ltN]
  | a :: as, b :: bs => by
    simp only [ltN]
    rcases Nat.lt_trichotomy a b with h | h | h
    · have : Nat.blt a b = true := by simpa [Nat.blt_eq] using h
      rw [this]
      simp [List.cons_lt_cons_iff, h]
    · subst h
      have : Nat.blt a a = false := by
        cases q : Nat.blt a a with
        | false => rfl
        | true => exact absurd (by simpa [Nat.blt_eq] using q) (Nat.lt_irrefl a)
      have e : Nat.beq a a = true := Nat.beq_refl a
      rw [this, e]
      simp [List.cons_lt_cons_iff, ltN_lt as bs]
    · have h1 : Nat.blt a b = false := by
        cases q : Nat.blt a b with
        | false => rfl
        | true => exact absurd (by simpa [Nat.blt_eq] using q) (Nat.lt_asymm h)
      have h2 : Nat.beq a b = false := by
        cases q : Nat.beq a b with
        | false => rfl
        | true => exact absurd (Nat.eq_of_beq_eq_true q) (Nat.ne_of_gt h)
      rw [h1, h2]
      have n1 : ¬ a < b := Nat.lt_asymm h
      have n2 : a ≠ b := Nat.ne_of_gt h
      simp [List.cons_lt_cons_iff, n1, n2]
theorem rising_pair : ∀ (ss : List Str) (p : Str), risingS p ss = true -> ((p :: ss).map fun y => y.cps.toList).Pairwise (fun a b => ltN b a = false)
  | [], p, _ => by simp
  | x :: r, p, h => by
    simp only [risingS, Bool.and_eq_true] at h
    obtain ⟨h1, h2⟩ := h
    have ih := rising_pair r x h2
    rw [List.map_cons, List.pairwise_cons]
    refine ⟨fun b hb => ?_, ih⟩
    have hx : ltN x.cps.toList p.cps.toList = false := by
      rw [ltN_lt, <- ltCps_eq]; simpa using h1
    rw [List.map_cons, List.mem_cons] at hb
    rcases hb with rfl | hb
    · exact hx
    · rw [List.map_cons, List.pairwise_cons] at ih
      have hbx := ih.1 b hb
      rw [ltN_lt, decide_eq_false_iff_not] at hx hbx ⊢
      exact fun q => hbx (Std.lt_of_lt_of_le q (Std.not_lt.mp hx))
end
end Mine
end

section
open PySem PySem.W PyProof.Rows
namespace Mine
set_option tactic.hygienic false
theorem setLast_toArray (vs : List Value) (v : Value) (hne : vs ≠ []) : (List.toArray vs).setIfInBounds (vs.length - 1) v = List.toArray (vs.dropLast ++ [v]) := by
  apply Array.ext'
  simp only [List.setIfInBounds_toArray]
  obtain ⟨ys, y, rfl⟩ : ∃ ys y, vs = ys ++ [y] := ⟨vs.dropLast, vs.getLast hne, (List.dropLast_concat_getLast hne).symm⟩
  simp [List.set_append]
theorem setLast_eq : ∀ (x : V) (l : List V) (y : V), setLast (x :: l) y = (x :: l).dropLast ++ [y]
  | x, [], y => rfl
  | x, z :: l, y => by
    have := setLast_eq z l y
    simp [setLast, this]
section
variable {prog : Program} {w : World} {pin : Led} {A : Around} {E : Value -> Shared -> Prop} {g : Array GenState} {d : Drawn} {os : OsState} {tk : Nat} {Q : Value -> Shared -> Prop}
variable {CA : ClsAt} {H : List Addr} {h₀ h h' : Heap} {L : Addr} {m m' : Str -> Option Value} {news news' : Led} {φ φ' : List Addr} {σ : Hp}
theorem setItem_last {s : Shared} {l : Addr} {items : Array Value} {n : Nat} {t : Tok} {v : Value} {Q : Unit -> Shared -> Prop} (ho : s.heap.get? l = some (listOf items n)) (hsz : 0 < items.size)
    (hQ : ∀ h' n', h'.get? l = some (listOf (items.setIfInBounds (items.size - 1) v) n') -> Heap.SameBut l s.heap h' -> Q () { s with heap := h' }) :
    wpAny (model prog w) A (setItem (.ref l) (.int (-1) t) v) Q E s := by
  have hl : s.heap.IsList l items := ⟨_, ho, rfl, _, rfl⟩
  have hd : (listOf items n).data = .seq items n := rfl
  unfold setItem
  try with_reducible refine wpAny_holding ?_
  first | refine wpAny_bind (wpAny_pure ?_) | skip
  refine wpAny_bind (wpAny_sequenceKey hl.typeIs (by decide) ?_)
  refine wpAny_bind (wpAny_callSpecial?_slot (name := Str.ofString "__setitem__") hl.typeIs slot_list_setitem
    (wpAny_call_entry slot_list_setitem hl.typeIs entry_list_setitem ?_ (args_list_setitem _ _ _)))
  show wpAny _ _ (Builtin.List.listSubscript? (.int (-1) t) >>= _) _ _ s
  refine wpAny_bind (wpAny_listSubscript_int (fitsIndex_neg (by decide) (by decide)) ?_)
  have hidx : seqIndex? (-1) items.size = some (items.size - 1) := by
    rw [seqIndex_neg (by decide) (by omega)]
    congr 1
    omega
  have hj : items.size - 1 < items.size := by omega
  have hx' : items[items.size - 1]? = some items[items.size - 1] := Array.getElem?_eq_getElem hj
  show wpAny _ _ ((Builtin.List.listItems (.ref l) >>= fun xs => pure ((seqIndex? (Int.negSucc 0) xs.size).bind fun i => xs[i]?.map (i, ·))) >>= _) _ _ s
  refine wpAny_bind (wpAny_bind ?_)
  show wpAny _ _ (seqItems? (.ref l) >>= _) _ _ s
  refine wpAny_bind (wpAny_seqItems ho hd (wpAny_pure (wpAny_pure ?_)))
  rw [show Int.negSucc 0 = (-1 : Int) from rfl, hidx]
  simp only [Option.bind_some, hx', Option.map_some]
  show wpAny _ _ (setSeqItemAt l (items.size - 1) v >>= _) _ _ s
  obtain ⟨n', hd'⟩ := Obj.data_mapSeq hd (·.setIfInBounds (items.size - 1) v)
  have e : Obj.mapSeq (·.setIfInBounds (items.size - 1) v) (listOf items n) = listOf (items.setIfInBounds (items.size - 1) v) n' := by
    have e1 : (Obj.mapSeq (·.setIfInBounds (items.size - 1) v) (listOf items n)) = { cls := (Obj.mapSeq (·.setIfInBounds (items.size - 1) v) (listOf items n)).cls, dict := (Obj.mapSeq (·.setIfInBounds (items.size - 1) v) (listOf items n)).dict, data := (Obj.mapSeq (·.setIfInBounds (items.size - 1) v) (listOf items n)).data, slots := (Obj.mapSeq (·.setIfInBounds (items.size - 1) v) (listOf items n)).slots } := rfl
    rw [e1, hd']
    rfl
  have hfin : (s.heap.update l (Obj.mapSeq (·.setIfInBounds (items.size - 1) v))).get? l = some (listOf (items.setIfInBounds (items.size - 1) v) n') := by
    rw [Heap.get?_update_self _ ho (Obj.isFreed_of_seq hd'), e]
  refine wpAny_bind (wpAny_setSeqItemAt ho hd ?_)
  first
    | exact wpAny_bind (wpAny_pure (wpAny_pure ⟨.none, rfl, wpAny_pure (hQ _ _ hfin (Heap.SameBut.update ..))⟩))
    | exact wpAny_pure ⟨.none, rfl, wpAny_pure (hQ _ _ hfin (Heap.SameBut.update ..))⟩
theorem VRs.dropLast {FX : Fix} {vs : List Value} {l : List V} (r : VRs CA FX news φ H vs l) : VRs CA FX news φ H vs.dropLast l.dropLast := by
  rw [List.dropLast_eq_take, List.dropLast_eq_take, r.length]
  exact r.take _
theorem setLast_rule {FX : Fix} (S : Sim CA FX H h₀ L m h news φ σ) {a : Addr} {i : Nat} {x : V} {l : List V} {v : Value} {y : V} {t : Tok} (hi : φ[i]? = some a) (hs : σ[i]? = some (.list (x :: l))) (rv : VR CA FX news φ H v y) {P : Hp -> Prop} {Q : Unit -> Shared -> Prop}
    (hw : P (σ.set i (.list (setLast (x :: l) y)))) (hQ : KontU CA FX H h₀ L m g d os news φ P Q) : wpAny (model prog w) A (setItem (.ref a) (.int (-1) t) v) Q E ⟨h, g, d, tk, os⟩ := by
  obtain ⟨b, hb, ho⟩ := S.ob _ _ hs
  rw [hi] at hb
  cases hb
  cases ho with
  | @list vs n _ mm r z =>
    have hlen : vs.length = l.length + 1 := by rw [r.length]; rfl
    have hne : vs ≠ [] := fun e => by rw [e] at hlen; cases hlen
    refine setItem_last (s := ⟨h, g, d, tk, os⟩) (S.N.get mm) (by rw [List.size_toArray]; omega) fun h' n' hl hsb => ?_
    have ma : a ∈ φ := List.mem_of_getElem? hi
    rw [List.size_toArray, setLast_toArray vs v hne] at hl
    have F' := S.F.change hsb (S.N _ mm).2.1 (S.N _ mm).2.2
    have N' : News h₀ L h' (updL a (listOf (List.toArray (vs.dropLast ++ [v])) n') news) := S.N.replace hsb hl
    have ex : Ext H news φ (updL a (listOf (List.toArray (vs.dropLast ++ [v])) n') news) φ := .upd (.inl ma)
    obtain ⟨S', _⟩ := S.upd (ao := .list (setLast (x :: l) y)) hi F' N' (.list (vs := vs.dropLast ++ [v]) (n := n') (updL_self mm)
      (by rw [setLast_eq]; exact (r.dropLast.append (.cons rv .nil)).mono ex) (by rw [setLast_eq]; simp only [List.length_append, List.length_dropLast, List.length_cons, List.length_nil] at z ⊢; omega))
    exact hQ _ hw _ _ _ _ S' ex
theorem sorted_rule {FX : Fix} (S : Sim CA FX H h₀ L m h news φ σ) {u : Value} {a : V} (ra : VR CA FX news φ H u a) {l : List V} {ss : List N} (e : items σ a = some l) (e2 : strsOf l = some ss) (hlt : l.length < 64) {P : V -> Hp -> Prop}
    (hw : ∀ ss' : List N, ss'.Perm ss -> ss'.Pairwise (fun a b => ltN b a = false) -> P (.vls (ss'.map .str)) σ) (hQ : Kont CA FX H h₀ L m g d os news φ P Q) :
    wpAny (model prog w) A (call (.builtin "sorted") [u]) Q E ⟨h, g, d, tk, os⟩ := by
  obtain ⟨a', vs, n, rfl, mm, r, z⟩ := items_at S ra e
  obtain ⟨ys, hy, hys, hok⟩ := strs_of r e2
  refine sorted_N_str (s := ⟨h, g, d, tk, os⟩) S.F S.N (S.N.isList mm) hy (by rw [r.length]; exact hlt) fun h' vs' ss' c F' N' ha hp hsd => ?_
  have N2 : News h₀ L h' ((h.objs.size + 1, listOf vs'.toArray c) :: news) := N'
  have hf : ∀ p ∈ news, p.1 < h.objs.size + 1 := fun p hp => Nat.lt_succ_of_lt (Heap.lt_size (S.N p hp).1)
  obtain ⟨S', ex⟩ := S.push hf F' N2
  have hperm : (ss'.map fun y => y.cps.toList).Perm ss := by rw [<- hys]; exact hp.map _
  have hpw : (ss'.map fun y => y.cps.toList).Pairwise (fun a b => ltN b a = false) := by
    cases ss' with
    | nil => simp
    | cons x rr => exact rising_pair rr x hsd
  have hvr : ∀ {vs' : List Value} {ss' : List Str}, StrsAre vs' ss' -> (∀ y ∈ ss', okS y.cps.toList = true) -> VRs CA FX ((h.objs.size + 1, listOf vs'.toArray c) :: news) φ H vs' ((ss'.map fun y => y.cps.toList).map .str) := by
    intro vs' ss' ha
    generalize hN : ((h.objs.size + 1, listOf vs'.toArray c) :: news) = nn
    clear hN
    induction ha with
    | nil => intro _; exact .nil
    | cons y t _ ih => intro h; exact .cons (.str y t _ rfl (h y (.head _))) (ih fun z hz => h z (.tail _ hz))
  have hall : ∀ y ∈ ss', okS y.cps.toList = true := fun y hy' => hok _ (hperm.mem_iff.mp (List.mem_map.mpr ⟨y, hy', rfl⟩))
  have hr := hvr ha hall
  have hz : lineL = 4096 := rfl
  refine hQ _ _ (hw _ hperm hpw) _ _ _ _ _ S' ex (.vls (n := c) (.head _) (off_new S hf) hr ?_)
  have h1 : ss'.length = ss.length := by have := hperm.length_eq; simpa using this
  have h2 : ss.length = l.length := by
    have : ys.length = ss.length := by rw [<- hys]; simp
    have := StrsAre.len_eq hy
    have := r.length
    omega
  simp only [List.length_map]
  omega
theorem sget_rule (S : Sim CA (FX0 prog w pin) H h₀ L m h news φ σ) {a : Addr} {ks : List N} {l : List V} {x : Str} {t : Tok} (ra : VR CA (FX0 prog w pin) news φ H (.ref a) (.sdct ks l)) {dv : Value} {dd : V} {dp : PyData} (rd : VR CA (FX0 prog w pin) news φ H dv dd) (hdf : PyProof.V.Flat dv dp) (hdp : flatD dd = some dp) (hdok : ∀ s, dd = .str s -> okS s = true)
    {P : V -> Hp -> Prop} (hw : getO (look ks l x.cps.toList) dd σ P) (hQ : Kont CA (FX0 prog w pin) H h₀ L m g d os news φ P Q) :
    wpAny (model prog w) A (call (.builtin "dict.get") [.ref a, .str x t, dv]) Q E ⟨h, g, d, tk, os⟩ := by
  obtain ⟨_, _, e0, mm, o, f, s⟩ := ra.sdct_e; cases e0
  obtain ⟨kvs, D, hd, hf, hD, hok⟩ := f
  have T := sd_tab (w := w) S.N mm s hd hf
  refine call_get2_strTab (s := ⟨h, g, d, tk, os⟩) T hdf fun v hv => ?_
  cases hl : look ks l x.cps.toList with
  | some c =>
    rw [hl] at hw
    obtain ⟨dc, e1, e2⟩ := flatP_look hD hl
    rw [e1] at hv
    exact hQ _ _ hw _ _ _ _ _ S (.refl _ _ _) (flat_VR hv e2 fun s e => hok s (e ▸ look_mem hl))
  | none =>
    rw [hl] at hw
    rw [flatP_none hD hl] at hv
    exact hQ _ _ hw _ _ _ _ _ S (.refl _ _ _) (flat_VR hv hdp hdok)
theorem sitem_rule (S : Sim CA (FX0 prog w pin) H h₀ L m h news φ σ) {a : Addr} {o : Obj} {ks : List N} {l : List V} {x : Str} {t : Tok} (mm : (a, o) ∈ news) (f : (FX0 prog w pin).sd o ks l) (s : (a == sysModules) = false) {y : V}
    {value slice : PySem.Expr} (hp : plainIdx slice = true) (hl : look ks l x.cps.toList = some y) (hQ : ∀ w' tk', VR CA (FX0 prog w pin) news φ H w' y -> Q w' ⟨h, g, d, tk', os⟩) :
    wpAny (model prog w) A (subscriptTail value slice (.ref a) (.str x t)) Q E ⟨h, g, d, tk, os⟩ := by
  obtain ⟨kvs, D, hd, hf, hD, hok⟩ := f
  have T := sd_tab (w := w) S.N mm s hd hf
  obtain ⟨dc, e1, e2⟩ := flatP_look hD hl
  refine tab_tail (s := ⟨h, g, d, tk, os⟩) T ?_ (plainIdx_sub hp _ _)
  exact getItem_tab (s := ⟨h, g, d, tk, os⟩) PyProof.V.same_str (strKind_is _ _ _ _) T e1 fun v hv => hQ _ _ (flat_VR hv e2 fun s e => hok s (e ▸ look_mem hl))
end
end Mine
end

section
open PySem PySem.W PyProof.Rows
namespace Mine
section
variable {prog : Program} {w : World} {pin : Led} {A : Around} {E : Value -> Shared -> Prop} {g : Array GenState} {d : Drawn} {os : OsState} {tk : Nat} {Q : Value -> Shared -> Prop}
variable {CA : ClsAt} {H : List Addr} {h₀ h h' : Heap} {L : Addr} {m m' : Str -> Option Value} {news news' : Led} {φ φ' : List Addr} {σ : Hp} {env : PySem.Env}
set_option tactic.hygienic false
theorem keys_all {ks : List (Option PySem.Expr)} : ∀ {ns : List N}, keyStrs ks = some ns -> (ks.all fun x => x.isSome) = true /\ strLits ks = true /\ ks.length = ns.length := by
  induction ks with
  | nil => intro ns e; cases e; exact ⟨rfl, rfl, rfl⟩
  | cons x r ih =>
    intro ns e
    obtain ⟨y, l, h, hl, rfl⟩ := mapO_e e
    obtain ⟨s, a, b, rfl, _⟩ := keyE_e h
    obtain ⟨h1, h2, h3⟩ := ih hl
    exact ⟨h1, h2, congrArg (· + 1) h3⟩
theorem consts_len {es : List PySem.Expr} {vs : List V} : consts es = some vs -> es.length = vs.length := mapO_len
theorem consts_ok {es : List PySem.Expr} : ∀ {vs : List V}, consts es = some vs -> okVs vs := by
  induction es with
  | nil => intro vs e s h; cases e; cases h
  | cons x r ih =>
    intro vs e s h
    obtain ⟨y, l, hx, hl, rfl⟩ := mapO_e e
    rcases List.mem_cons.mp h with rfl | h
    · rcases siE_e hx with ⟨_, _, _, _, e, ok⟩ | ⟨_, _, _, _, e⟩
      · cases e; exact ok
      · cases e
    · exact ih hl s h
theorem pairs_rule {pos : Pos} : ∀ {ks : List (Option PySem.Expr)} {ns : List N} {es : List PySem.Expr} {vs : List V} (tk : Nat) (Q : List (Value × Value) -> Shared -> Prop), keyStrs ks = some ns -> consts es = some vs -> ns.length = vs.length ->
    (∀ ps kvs D tk', Carries (PySem.strKind prog w) ps kvs -> PyProof.V.FlatPairs PyData.str kvs D -> flatP ns vs = some D -> kvs.map (fun x => x.1.cps.toList) = ns -> Q ps ⟨h, g, d, tk', os⟩) ->
    wpAny (model prog w) A (evalPairs (pairTrees ks es env pos)) Q E ⟨h, g, d, tk, os⟩ := by
  intro ks
  induction ks with
  | nil =>
    intro ns es vs tk Q e1 e2 hl hQ
    cases e1
    obtain rfl : vs = [] := List.length_eq_zero_iff.mp hl.symm
    exact evalPairs_nil (hQ [] [] [] tk trivial .nil rfl rfl)
  | cons x r ih =>
    intro ns es vs tk Q e1 e2 hl hQ
    obtain ⟨_, l, hx, hk, rfl⟩ := mapO_e e1
    obtain ⟨s, a, b, rfl, rfl⟩ := keyE_e hx
    cases es with
    | nil => cases e2; cases hl
    | cons e es =>
      obtain ⟨v, l2, hy, hl2, rfl⟩ := mapO_e e2
      have hln := Nat.succ.inj hl
      rcases siE_e hy with ⟨y, a2, b2, rfl, rfl, ok⟩ | ⟨i, a2, b2, rfl, rfl⟩
      · refine evalPairs_cons (Calls.Constant_str (wpAny_bind (Calls.Constant_str (wpAny_bind (wpAny_standAt (wpAny_pure ?_))))))
        refine ih _ _ hk hl2 hln fun ps kvs D tk' hc hf hp hm => ?_
        exact hQ _ ((s, .str y _) :: kvs) ((.str s, .str y) :: D) _ ⟨strKind_is _ _ _ _, rfl, hc⟩ (.cons (PyProof.V.Flat.str _ _) hf) (flatP_cons hp (show flatD (.str y.cps.toList) = some (.str y) by simp only [flatD, mk_str rfl])) (congrArg (s.cps.toList :: ·) hm)
      · refine evalPairs_cons (Calls.Constant_str (wpAny_bind (wpAny_Constant_int (wpAny_bind (wpAny_standAt (wpAny_pure ?_))))))
        refine ih _ _ hk hl2 hln fun ps kvs D tk' hc hf hp hm => ?_
        exact hQ _ ((s, .int i _) :: kvs) ((.str s, .int i) :: D) _ ⟨strKind_is _ _ _ _, rfl, hc⟩ (.cons (PyProof.V.Flat.int _ _) hf) (flatP_cons hp rfl) (congrArg (s.cps.toList :: ·) hm)
set_option tactic.hygienic true
theorem nodupN_iff : ∀ {l : List N}, nodupN l = true -> l.Nodup
  | [], _ => List.nodup_nil
  | k :: r, h => by
    unfold nodupN at h
    split at h
    · cases h
    · rename_i q
      refine List.nodup_cons.mpr ⟨fun hm => ?_, nodupN_iff h⟩
      rw [memN_iff.mpr hm] at q; cases q
theorem dct_rule (S : Sim CA (FX0 prog w pin) H h₀ L m h news φ σ) (hsm : sysModules < h₀.objs.size) {ks : List (Option PySem.Expr)} {es : List PySem.Expr} {pos : Pos} {ns : List N} {vs : List V} (e1 : keyStrs ks = some ns) (e2 : consts es = some vs) (ok : dctOk ns vs = true)
    {P : V -> Hp -> Prop} (hw : P (.sdct ns vs) σ) (hQ : Kont CA (FX0 prog w pin) H h₀ L m g d os news φ P Q) : wpAny (model prog w) A (eval (.Dict ks es pos) env) Q E ⟨h, g, d, tk, os⟩ := by
  obtain ⟨h1, h2, h3⟩ := keys_all e1
  have h4 := consts_len e2
  unfold dctOk at ok
  split at ok
  · rename_i b1
    have b1 := Nat.eq_of_beq_eq_true b1
    split at ok
    · rename_i b2
      split at ok
      · rename_i b3
        have b3 := Nat.le_of_ble_eq_true b3
        have b4 := Nat.le_of_ble_eq_true ok
        refine Dict_made_str (s := ⟨h, g, d, tk, os⟩) h2 S.F h1 (by omega) (fun q => by rw [q] at h3; simp at h3; omega) (by omega) fun F' => ?_
        refine pairs_rule _ _ e1 e2 b1 fun ps kvs D tk' hc hf hp hm => ⟨kvs, hc, Heap.DictOf.new h, fun h' hd hs => ?_⟩
        have nd : (kvs.map (·.1)).Nodup := by
          have n1 := nodupN_iff b2
          rw [<- hm] at n1
          have : (kvs.map fun x => x.1.cps.toList) = (kvs.map (·.1)).map (fun s => s.cps.toList) := by rw [List.map_map]; rfl
          rw [this] at n1
          exact (List.pairwise_map.mp n1).imp fun h e => h (by rw [e])
        rw [merged_nil_of_nodup _ nd] at hd
        obtain ⟨o, ho, hod⟩ := Heap.dictOf_iff.mp hd
        have hL : h.objs.size ≠ L := Nat.ne_of_gt S.F.ns.lt
        have hn : h₀.get? h.objs.size = none := by
          cases e : h₀.get? h.objs.size with
          | none => rfl
          | some o => exact absurd (Heap.lt_size (S.F.keep _ _ e)) (Nat.lt_irrefl _)
        have F2 := F'.change hs hL hn
        have hf' : ∀ p ∈ news, p.1 < h.objs.size := fun p hp => Heap.lt_size (S.N p hp).1
        have N2 : News h₀ L h' ((h.objs.size, o) :: news) := fun p hp => by
          rcases List.mem_cons.mp hp with rfl | hp
          · exact ⟨ho, hL, hn⟩
          · exact ⟨(hs.2 p.1 (Nat.ne_of_lt (hf' p hp))).trans (Heap.get?_push_of_some _ (S.N p hp).1), (S.N p hp).2⟩
        obtain ⟨S', ex⟩ := S.push hf' F2 N2
        refine hQ _ _ hw _ _ _ _ _ S' ex (.sdct (.head _) (off_new S hf') ⟨kvs, D, hod, hf, hp, consts_ok e2⟩ ?_)
        rw [beq_eq_false_iff_ne]
        have := S.F.above
        have := S.F.ns.lt
        exact Nat.ne_of_gt (Nat.lt_of_lt_of_le hsm (Nat.le_of_lt (Nat.lt_of_le_of_lt S.F.above S.F.ns.lt)))
      · cases ok
    · cases ok
  · cases ok
set_option tactic.hygienic false
theorem TupTab.mono {nw : Led} {a : Addr} {D : List (PyData × PyData)} (T : TupTab (PySem.strKind prog w) PyData.str nw a D) (hk : ∀ p ∈ nw, p ∈ news) : TupTab (PySem.strKind prog w) PyData.str news a D :=
  by
  obtain ⟨lo, o, es, ep, xs, hm, hc, hd, he, hn, hx, hf⟩ := T
  refine ⟨lo, o, es, ep, xs, hk _ hm, hc, hd, he, hn, fun x hx' => ?_, hf⟩
  obtain ⟨ok, hmk, t⟩ := hx x hx'
  exact ⟨ok, hk _ hmk, t⟩
theorem look3_D : ∀ (l : List (N × N × N)) (x y : Str), Spec.lookup (encTuple PyData.str [x, y]) (dctD l) = (look3 l x.cps.toList y.cps.toList).map fun c => .str ⟨⟨c⟩⟩
  | [], x, y => rfl
  | (a, b, c) :: r, x, y => by
    have ih := look3_D r x y
    have e : Spec.same (PyData.tuple [.str ⟨⟨a⟩⟩, .str ⟨⟨b⟩⟩]) (encTuple PyData.str [x, y]) = (leq a x.cps.toList && leq b y.cps.toList) := by
      have h1 : (PyData.tuple [.str ⟨⟨a⟩⟩, .str ⟨⟨b⟩⟩]) = encTuple PyData.str [⟨⟨a⟩⟩, ⟨⟨b⟩⟩] := rfl
      rw [h1, same_encTuple PyProof.V.same_str, <- leq_str ⟨⟨a⟩⟩ x, <- leq_str ⟨⟨b⟩⟩ y]
      rw [Bool.eq_iff_iff]
      simp
    show (if Spec.same (PyData.tuple [.str ⟨⟨a⟩⟩, .str ⟨⟨b⟩⟩]) (encTuple PyData.str [x, y]) = true then some (PyData.str ⟨⟨c⟩⟩) else Spec.lookup (encTuple PyData.str [x, y]) (dctD r)) = _
    rw [e, ih]
    simp only [look3]
    cases leq a x.cps.toList <;> cases leq b y.cps.toList <;> simp
theorem look3_mem : ∀ {l : List (N × N × N)} {x y c : N}, look3 l x y = some c -> ∃ p ∈ l, p.2.2 = c
  | [], x, y, c, e => by simp [look3] at e
  | (a, b, z) :: r, x, y, c, e => by
    unfold look3 at e
    split at e
    · split at e
      · cases e; exact ⟨_, .head _, rfl⟩
      · obtain ⟨p, hp, q⟩ := look3_mem e; exact ⟨p, .tail _ hp, q⟩
    · obtain ⟨p, hp, q⟩ := look3_mem e; exact ⟨p, .tail _ hp, q⟩
theorem dget_rule (S : Sim CA (FX0 prog w pin) H h₀ L m h news φ σ) (hu : A.units + 1 < cLine) {a b : Addr} {l : List (N × N × N)} {x y z : N} {t : Tok} {dv : Str} (ra : VR CA (FX0 prog w pin) news φ H (.ref a) (.dct l)) (rb : VR CA (FX0 prog w pin) news φ H (.ref b) (.tup [.str x, .str y]))
    (hdv : dv.cps.toList = z) (okz : okS z = true) {P : V -> Hp -> Prop} (hw : getS (look3 l x y) (.str z) σ P) (hQ : Kont CA (FX0 prog w pin) H h₀ L m g d os news φ P Q) :
    wpAny (model prog w) A (call (.builtin "dict.get") [.ref a, .ref b, .str dv t]) Q E ⟨h, g, d, tk, os⟩ := by
  obtain ⟨_, _, e0, hn, f⟩ := ra.dct_e; cases e0
  obtain ⟨T, okl, _⟩ := f
  obtain ⟨_, _, _, e0, mm, o, r, zz⟩ := rb.tup_e; cases e0
  replace r := r.cons_e
  obtain ⟨_, _, rfl, r1, r⟩ := r
  replace r := r.cons_e
  obtain ⟨_, _, rfl, r2, r⟩ := r
  obtain rfl := r.nil_e
  obtain ⟨x1, t1, rfl, e1, k1⟩ := r1.str_e
  obtain ⟨y1, t2, rfl, e2, k2⟩ := r2.str_e
  subst e1 e2 hdv
  refine call_get2_tupTab (s := ⟨h, g, d, tk, os⟩) PyProof.V.same_str hu S.N (TupTab.mono T fun p hp => (hn p hp).1) mm (ks := [x1, y1]) ⟨rfl, _, _, rfl, .cons (strKind_is _ _ _ _) (.cons (strKind_is _ _ _ _) .nil)⟩ (PyProof.V.Flat.str _ _) fun v hv => ?_
  rw [look3_D] at hv
  cases hl : look3 l x1.cps.toList y1.cps.toList with
  | some c =>
    rw [hl] at hv hw
    obtain ⟨p, hp, hpc⟩ := look3_mem hl
    have := hv default
    cases this
    exact hQ _ _ hw _ _ _ _ _ S (.refl _ _ _) (.str _ _ _ rfl (hpc ▸ okl p hp))
  | none =>
    rw [hl] at hv hw
    have := hv default
    cases this
    exact hQ _ _ hw _ _ _ _ _ S (.refl _ _ _) (.str _ _ _ rfl okz)
end
end Mine
end

section
open PySem PySem.W PyProof.Rows
open Sem (wp)
namespace Mine
noncomputable def DK (h h' : Heap) : Prop := ∀ a o, h.get? a = some o -> ∃ o', h'.get? a = some o' /\ o'.dict = o.dict
set_option tactic.hygienic false
theorem DK.refl (h : Heap) : DK h h := fun _ o e => ⟨o, e, rfl⟩
theorem DK.trans {h₁ h₂ h₃ : Heap} (a : DK h₁ h₂) (b : DK h₂ h₃) : DK h₁ h₃ := fun x o e => by
  obtain ⟨o', e', d'⟩ := a x o e
  obtain ⟨o'', e'', d''⟩ := b x o' e'
  exact ⟨o'', e'', d''.trans d'⟩
structure KD {α : Type} (t : Sem α) : Prop where
  out : ∀ (M : Model) (Γ : Ctx) (P : α -> Pos -> Shared -> Prop) (Ee : Value -> Pos -> Shared -> Prop) (p : Pos) (s : Shared), wp M Γ t P Ee p s -> wp M Γ t (fun a p' s' => P a p' s' /\ DK s.heap s'.heap) Ee p s
namespace KD
variable {α β : Type}
theorem pure (a : α) : KD (Pure.pure a : Sem α) := ⟨fun M Γ P Ee p s h => by rw [Sem.wp_pure'] at h ⊢; exact ⟨h, DK.refl _⟩⟩
theorem unsupported (w : String) : KD (PySem.unsupported w : Sem α) := ⟨fun _ _ _ _ _ _ h => h⟩
theorem bind {m : Sem α} {f : α -> Sem β} (hm : KD m) (hf : ∀ a, KD (f a)) : KD (m >>= f) := ⟨fun M Γ P Ee p s h => by
  rw [Sem.wp_bind'] at h ⊢
  refine Sem.wp_mono M Γ m (fun a p' s' h' => ?_) (fun _ _ _ x => x) p s (hm.out M Γ _ Ee p s h)
  refine Sem.wp_mono M Γ (f a) (fun b p'' s'' h'' => ?_) (fun _ _ _ x => x) p' s' ((hf a).out M Γ P Ee p' s' h'.1)
  exact ⟨h''.1, h'.2.trans h''.2⟩⟩
theorem ite {c : Prop} [Decidable c] {t u : Sem α} (ht : KD t) (hu : KD u) : KD (if c then t else u) := by split <;> assumption
theorem load (a : Addr) : KD (PySem.load a) := ⟨fun M Γ P Ee p s h => let ⟨o, e, k⟩ := h; ⟨o, e, k, DK.refl _⟩⟩
theorem dk_update (h : Heap) (a : Addr) (f : Obj -> Obj) (hf : ∀ o, (f o).dict = o.dict /\ (f o).isFreed = o.isFreed) : DK h (h.update a f) := fun b o e => by
  by_cases q : b = a
  · subst q
    have hn : o.isFreed = false := by
      have := ((Heap.get?_eq_some _ _ _).1 e).2
      obtain ⟨c, dd, dt, sl⟩ := o
      unfold Obj.alive at this
      unfold Obj.isFreed
      cases dt <;> first | rfl | cases this
    exact ⟨f o, Heap.get?_update_self f e (by rw [(hf o).2, hn]), (hf o).1⟩
  · exact ⟨o, (Heap.get?_update_other _ _ (Ne.symm q)).trans e, rfl⟩
theorem update (a : Addr) (f : Obj -> Obj) (hf : ∀ o, (f o).dict = o.dict /\ (f o).isFreed = o.isFreed) : KD (PySem.update a f) := ⟨fun M Γ P Ee p s h => ⟨h.1, h.2, dk_update _ a f hf⟩⟩
theorem updSlots (a : Addr) (F : Obj -> Array (Option Value)) : KD (PySem.update a fun o => { cls := o.cls, dict := o.dict, data := o.data, slots := F o }) :=
  update a _ fun ⟨_, _, dt, _⟩ => ⟨rfl, by cases dt <;> rfl⟩
theorem stack : KD PySem.stack := ⟨fun M Γ P Ee p s h => by
  unfold PySem.stack at h ⊢
  rw [Sem.wp_stack] at h ⊢
  exact ⟨h, DK.refl _⟩⟩
theorem alloc (o : Obj) : KD (PySem.alloc o) := ⟨fun M Γ P Ee p s h => by
  unfold PySem.alloc at h ⊢
  rw [Sem.wp_alloc] at h ⊢
  exact ⟨h, fun b o' e => ⟨o', Heap.get?_push_of_some _ e, rfl⟩⟩⟩
theorem field (v : Value) (i : Nat) : KD (PySem.field v i) := ⟨fun M Γ P Ee p s h => by
  rw [wp_field_iff] at h ⊢
  obtain ⟨a, o, vs, x, e, ho, hd, hx, hp⟩ := h
  exact ⟨a, o, vs, x, e, ho, hd, hx, hp, DK.refl _⟩⟩
theorem mapFields_keep (f : Array Value -> Array Value) (o : Obj) : (Obj.mapFields f o).dict = o.dict /\ (Obj.mapFields f o).isFreed = o.isFreed := by
  obtain ⟨c, d, dt, sl⟩ := o
  cases dt <;> exact ⟨rfl, rfl⟩
theorem setField (v : Value) (i : Nat) (x : Value) : KD (PySem.setField v i x) := ⟨fun M Γ P Ee p s h => by
  rw [wp_setField_iff] at h ⊢
  obtain ⟨a, o, vs, e, ho, hd, hi, hp⟩ := h
  exact ⟨a, o, vs, e, ho, hd, hi, hp, dk_update _ _ _ (mapFields_keep _)⟩⟩
end KD
theorem kd_behindIsImport (env : PySem.Env) (outer : List PySem.Env) : KD (behindIsImport env outer) := by
  unfold behindIsImport
  repeat' with_reducible first
    | assumption
    | exact KD.pure _
    | exact KD.unsupported _
    | exact KD.field _ _
    | exact KD.setField _ _ _
    | exact KD.load _
    | exact KD.updSlots _ _
    | exact KD.stack
    | exact KD.alloc _
    | apply KD.ite
    | apply KD.bind
    | intro _
    | split
theorem kd_underTheClaimsCaller : KD underTheClaimsCaller := by
  unfold underTheClaimsCaller
  repeat' with_reducible first
    | assumption
    | exact KD.pure _
    | exact KD.unsupported _
    | exact KD.field _ _
    | exact KD.setField _ _ _
    | exact KD.load _
    | exact KD.updSlots _ _
    | exact KD.stack
    | exact KD.alloc _
    | apply KD.ite
    | apply KD.bind
    | intro _
    | split
theorem kd_keptBack (env : PySem.Env) (i : Bool) (l : List PySem.Env) : KD (keptBack env i l) := by
  have := kd_underTheClaimsCaller
  cases l <;> unfold keptBack <;> (repeat' with_reducible first
    | assumption
    | exact KD.pure _
    | exact KD.unsupported _
    | exact KD.field _ _
    | exact KD.setField _ _ _
    | exact KD.load _
    | exact KD.updSlots _ _
    | exact KD.stack
    | exact KD.alloc _
    | apply KD.ite
    | apply KD.bind
    | intro _
    | split)
theorem kd_readyFrames : ∀ l : List PySem.Env, KD (readyFrames l)
  | [] => KD.pure _
  | env :: outer => by
    have ih := kd_readyFrames outer
    have h1 := kd_behindIsImport env outer
    have h2 := fun i => kd_keptBack env i outer
    unfold readyFrames
    repeat' with_reducible first
    | assumption
    | exact KD.pure _
    | exact KD.unsupported _
    | exact KD.field _ _
    | exact KD.setField _ _ _
    | exact KD.load _
    | exact KD.updSlots _ _
    | exact KD.stack
    | exact KD.alloc _
    | apply KD.ite
    | apply KD.bind
    | intro _
    | split
    all_goals first | exact h2 _ | skip
theorem kd_frameObject (l : List PySem.Env) : KD (frameObject l) := by
  cases l with
  | nil => exact KD.pure _
  | cons env outer =>
    have := kd_readyFrames (env :: outer)
    unfold frameObject
    repeat' with_reducible first
    | assumption
    | exact KD.pure _
    | exact KD.unsupported _
    | exact KD.field _ _
    | exact KD.setField _ _ _
    | exact KD.load _
    | exact KD.updSlots _ _
    | exact KD.stack
    | exact KD.alloc _
    | apply KD.ite
    | apply KD.bind
    | intro _
    | split
theorem kd_frameEnvs : KD frameEnvs := by
  unfold frameEnvs
  repeat' with_reducible first
    | assumption
    | exact KD.pure _
    | exact KD.unsupported _
    | exact KD.field _ _
    | exact KD.setField _ _ _
    | exact KD.load _
    | exact KD.updSlots _ _
    | exact KD.stack
    | exact KD.alloc _
    | apply KD.ite
    | apply KD.bind
    | intro _
    | split
theorem kd_frameOf (env : PySem.Env) : KD (PySem.frameOf env) := by
  have h1 := kd_frameEnvs
  have h2 := kd_frameObject
  unfold PySem.frameOf
  repeat' with_reducible first
    | assumption
    | exact KD.pure _
    | exact KD.unsupported _
    | exact KD.field _ _
    | exact KD.setField _ _ _
    | exact KD.load _
    | exact KD.updSlots _ _
    | exact KD.stack
    | exact KD.alloc _
    | apply KD.ite
    | apply KD.bind
    | intro _
    | split
  all_goals first | exact h2 _ | skip
theorem kd_entryPlaceOf (f : Addr) (hadNext : Bool) : KD (entryPlaceOf f hadNext) := by
  unfold entryPlaceOf
  repeat' with_reducible first
    | assumption
    | exact KD.pure _
    | exact KD.unsupported _
    | exact KD.field _ _
    | exact KD.setField _ _ _
    | exact KD.load _
    | exact KD.updSlots _ _
    | exact KD.stack
    | exact KD.alloc _
    | apply KD.ite
    | apply KD.bind
    | intro _
    | split
theorem kd_newFields (ty : String) (vs : List Value) : KD (newFields ty vs) := by
  unfold newFields newObj newObjAsIs
  repeat' with_reducible first
    | assumption
    | exact KD.pure _
    | exact KD.unsupported _
    | exact KD.field _ _
    | exact KD.setField _ _ _
    | exact KD.load _
    | exact KD.updSlots _ _
    | exact KD.stack
    | exact KD.alloc _
    | apply KD.ite
    | apply KD.bind
    | intro _
    | split
theorem kd_setFlight (e : Value) (f : Option Addr) : KD (setFlight e f) := by
  unfold setFlight
  repeat' with_reducible first
    | assumption
    | exact KD.pure _
    | exact KD.unsupported _
    | exact KD.field _ _
    | exact KD.setField _ _ _
    | exact KD.load _
    | exact KD.updSlots _ _
    | exact KD.stack
    | exact KD.alloc _
    | apply KD.ite
    | apply KD.bind
    | intro _
    | split
theorem kd_noteFrame (e : Value) (env : PySem.Env) : KD (noteFrame e env) := by
  have h1 := kd_frameOf env
  have h2 := kd_entryPlaceOf
  have h3 := kd_newFields
  unfold noteFrame EntryCells.newEntry
  repeat' with_reducible first
    | assumption
    | exact KD.pure _
    | exact KD.unsupported _
    | exact KD.field _ _
    | exact KD.setField _ _ _
    | exact KD.load _
    | exact KD.updSlots _ _
    | exact KD.stack
    | exact KD.alloc _
    | apply KD.ite
    | apply KD.bind
    | intro _
    | split
  all_goals first | exact h2 _ _ | exact h3 _ _ | skip
theorem kd_leaving (e : Value) (env : PySem.Env) : KD (leaving env e) := by
  unfold leaving
  exact KD.bind (kd_noteFrame e env) fun _ => kd_setFlight e none
theorem KD.any {α : Type} {t : Sem α} (k : KD t) {M : Model} {A : Around} {Q : α -> Shared -> Prop} {E : Value -> Shared -> Prop} {s : Shared} (h : wpAny M A t Q E s) : wpAny M A t (fun a s' => Q a s' /\ DK s.heap s'.heap) E s :=
  fun Γ p hΓ => k.out M Γ _ _ p s (h Γ p hΓ)
end Mine
end

section
open PySem PySem.W PyProof.Rows
open Sem (wp)
namespace Mine
section
variable {prog : Program} {w : World} {A : Around} {E : Value -> Shared -> Prop} {h : Heap} {g : Array GenState} {d : Drawn} {t : Nat} {os : OsState}
variable {nm q : Str} {C N : Addr} {bs bm bmB : List Value} {hdct : Bool} {sn : List Str} {sub : List Value} {ab : Bool} {col : Option Bool} {dd : Option Addr} {k0 k1 k2 k3 k5 : Option Value} {B newId initId : String}
set_option tactic.hygienic false
theorem exc_check (F : ExcBaseFacts B newId initId bmB) (hB : bm.contains (.type B) = true) {M : Model} {rest : List Value} {Q : Unit -> Shared -> Prop} (hC : h.get? C = some (excClassObj nm q C N bs bm hdct sn sub ab col dd k0 k1 k2 k3 k5 newId))
    (hq : Q () ⟨h, g, d, t, os⟩) : wpAny M A (checkBuiltinCall newId ⟨.ref C :: rest, []⟩) Q E ⟨h, g, d, t, os⟩ := by
  have hcont : (Value.ref C :: bm).contains (.type B) = true := by rw [List.contains_cons, hB, Bool.or_true]
  have hstar := F.noStar
  simp only [checkBuiltinCall, F.newKind, F.newSplit, F.newRow]
  repeat (first | refine wpAny_loadPart_at hC ?_ | (refine wpAny_isSubtype_exc hC ?_; rw [hcont]) | refine wpAny_staticBase_exc hC ?_ | refine wpAny_madeBy_exc hC ?_ | simp only [bne_self_eq_false, Bool.false_eq_true, if_false] | wp_step)
  exact hq
theorem exc_new (F : ExcBaseFacts B newId initId bmB) (hB : bm.contains (.type B) = true) (hA : bm.contains (.type "AttributeError") = false) (hN : bm.contains (.type "NameError") = false) {R : Result -> Shared -> Prop} {rest : List Value}
    (hC : h.get? C = some (excClassObj nm q C N bs bm hdct sn sub ab col dd k0 k1 k2 k3 k5 newId))
    (hq : R (.ok (.ret (.ref (h.objs.size + 1)))) ⟨(h.push { cls := .type "tuple", data := .seq rest.toArray }).push
      { cls := .ref C, data := .fields #[.ref h.objs.size, .none, .none, .none, .bool false, .none] }, g, d, t, os⟩) (hrest : rest.length <= sizeLine := by size_fits) :
    codeAny (model prog w) A (.builtin newId ⟨.ref C :: rest, []⟩) R ⟨h, g, d, t, os⟩ := by
  have hends := F.ends
  have hcB : (Value.ref C :: bm).contains (.type B) = true := by rw [List.contains_cons, hB, Bool.or_true]
  have hcA : (Value.ref C :: bm).contains (.type "AttributeError") = false := by rw [List.contains_cons, hA]; rfl
  have hcN : (Value.ref C :: bm).contains (.type "NameError") = false := by rw [List.contains_cons, hN]; rfl
  refine codeAny_builtinAt F.entry ?_
  unfold Builtin.«BaseException.__new__»
  refine PySem.wpAt_bind ?_
  show PySem.wpAt _ _ _ (PySem.stack >>= _) _ _ _
  refine PySem.wpAt_bind (PySem.wpAt_stack fun p below => PySem.wpAt_of_wpAny ?_)
  wp_walk
  refine PySem.wpAt_of_wpAny ?_
  rw [F.owner]
  repeat (first | with_reducible refine wpAny_madeHere_exc F.canon hC ?_ | with_reducible refine wpAny_loadPart_at hC ?_ | (with_reducible refine wpAny_isSubtype_exc hC ?_; first | rw [hcB] | rw [hcA] | rw [hcN]) | wp_step)
  show R _ _
  rw [Heap.size_push]
  exact hq
theorem exc_type_call {K : Frag} (F : ExcBaseFacts B newId initId bmB) (hB : bm.contains (.type B) = true) (hA : bm.contains (.type "AttributeError") = false) (hN : bm.contains (.type "NameError") = false) {rest : List Value} {fI : Addr} {oI : Obj} {Q : Fin -> Shared -> Prop}
    (X : K.In h) (hC : h.get? C = some (excClassObj nm q C N bs bm hdct sn sub ab col dd k0 k1 k2 k3 k5 newId)) (hi : findIn K (.ref C) "__init__" = some (some (.ref fI)))
    (hfI : h.get? fI = some oI) (hfc : oI.cls = .type "function")
    (hq : ∀ h' e, Heap.MadeExcOf h h' e (.ref C) rest ->
      wpAny (model prog w) A (call (.ref fI) (.ref e :: rest)) (fun r s' => r = .none /\ Q (.done (.ret (.ref e))) s') E ⟨h', g, d, t, os⟩) (hrest : rest.length <= sizeLine := by size_fits) :
    wpAny (model prog w) A (Builtin.«type.__call__» ⟨.ref C :: rest, []⟩) Q E ⟨h, g, d, t, os⟩ := by
  repeat (first | with_reducible refine wpAny_loadPart_at hC ?_ | with_reducible refine wpAny_madeBy_exc hC ?_ | wp_step)
  refine codeAny_call_builtin_code (Code.quiet_builtin _ F.quiet) (exc_check F hB hC ?_)
  refine exc_new F hB hA hN hC ?_ hrest
  show wpAny _ _ _ _ _ _
  have up : ∀ b o, h.get? b = some o -> ((h.push { cls := .type "tuple", data := .seq rest.toArray }).push { cls := .ref C, data := .fields #[.ref h.objs.size, .none, .none, .none, .bool false, .none] }).get? b = some o :=
    fun b o e => Heap.get?_push_of_some _ (Heap.get?_push_of_some _ e)
  have hC₁ := up _ _ hC
  have hfI₁ := up _ _ hfI
  have X₁ : K.In ((h.push { cls := .type "tuple", data := .seq rest.toArray }).push { cls := .ref C, data := .fields #[.ref h.objs.size, .none, .none, .none, .bool false, .none] }) := X.keeps up
  have hget : ((h.push { cls := .type "tuple", data := .seq rest.toArray }).push
      { cls := .ref C, data := .fields #[.ref h.objs.size, .none, .none, .none, .bool false, .none] }).get? (h.objs.size + 1) = some
      { cls := .ref C, data := .fields #[.ref h.objs.size, .none, .none, .none, .bool false, .none] } := by heap_get
  have hcC : (Value.ref C :: bm).contains (.ref C) = true := by simp
  unfold isInstance
  repeat (first | with_reducible refine wpAny_loadPart_at hget ?_ | (with_reducible refine wpAny_isSubtype_exc hC₁ ?_; rw [hcC]) | wp_step)
  show wpAny _ _ (typeLookup (.ref C) _) _ _ _
  refine (looks_findIn X₁ hi).at ?_
  refine wpAny_holding (wpAny_bind ?_)
  unfold bindSpecial
  refine wpAny_bind (wpAny_typeOf (T := "function") ⟨_, hfI₁, hfc⟩ ?_)
  rw [if_pos (by decide)]
  refine wpAny_pure (wpAny_bind (wpAny_mono (hq _ (h.objs.size + 1) ⟨up, Heap.get?_none_of_le (Nat.le_succ _), h.objs.size, hget, Heap.get?_none_of_le (Nat.le_refl _), ?_⟩) (fun r s' hr => ?_) fun _ _ x => x))
  · exact Heap.get?_push_of_some _ (Heap.get?_push_at rfl rfl)
  · obtain ⟨rfl, hQ⟩ := hr
    wp_walk
    exact hQ
theorem exc_call {K : Frag} (F : ExcBaseFacts B newId initId bmB) (hB : bm.contains (.type B) = true) (hA : bm.contains (.type "AttributeError") = false) (hN : bm.contains (.type "NameError") = false) {rest : List Value} {fI : Addr} {oI : Obj} {Q : Value -> Shared -> Prop}
    (X : K.In h) (hC : h.get? C = some (excClassObj nm q C N bs bm hdct sn sub ab col dd k0 k1 k2 k3 k5 newId)) (hi : findIn K (.ref C) "__init__" = some (some (.ref fI)))
    (hfI : h.get? fI = some oI) (hfc : oI.cls = .type "function")
    (hq : ∀ h' e, Heap.MadeExcOf h h' e (.ref C) rest ->
      wpAny (model prog w) (A.under (.builtin "type.__call__" ⟨.ref C :: rest, []⟩)) (call (.ref fI) (.ref e :: rest)) (fun r s' => r = .none /\ Q (.ref e) s') E ⟨h', g, d, t, os⟩) (hrest : rest.length <= sizeLine := by size_fits) :
    wpAny (model prog w) A (call (.ref C) rest) Q E ⟨h, g, d, t, os⟩ := by
  have f1 := tc_lookup
  have f2 := tc_bind (.ref C)
  have hT : (⟨h, g, d, t, os⟩ : Shared).TypeIs (.ref C) "type" := ⟨_, hC, rfl⟩
  refine wpAny_call (codeAny_of_tree ?_)
  show wpAny _ _ (callAny (.ref C) _) _ _ _
  repeat (any_goals (first | assumption | with_reducible refine wpAny_loadPart_at hC ?_ | wp_step))
  refine ⟨rfl, ?_⟩
  refine codeAny_call_builtin_at (Code.quiet_builtin _ (by decide +kernel)) entry_typeCall (wpAny_check_type_call_sub hC (exc_type_call (hrest := hrest) F hB hA hN X hC hi hfI hfc fun h' e hm => ?_))
  exact hq h' e hm
end
section
variable {M : Model} {A : Around} {E : Value -> Shared -> Prop} {env : PySem.Env}
variable {nm q : Str} {C N : Addr} {bs bm : List Value} {hdct : Bool} {sn : List Str} {sub : List Value} {ab : Bool} {col : Option Bool} {dd : Option Addr} {k0 k1 k2 k3 k5 : Option Value} {newId : String}
theorem raise_made {s : Shared} {x : Sem Value} {Q : Flow -> Shared -> Prop} (hbase : bm.contains (.type "BaseException") = true) (hh : A.handled = none)
    (h : wpAny M A x (fun v s₁ => ∃ e t D, v = .ref e /\ s₁.heap.get? C = some (excClassObj nm q C N bs bm hdct sn sub ab col dd k0 k1 k2 k3 k5 newId) /\
      s₁.heap.get? e = some { cls := .ref C, dict := some D, data := .fields #[.ref t, .none, .none, .none, .bool false, .none] } /\ E (.ref e) s₁) E s) :
    wpAny M A (raiseStmt env (some x) none) Q E s := by
  have hcB : (Value.ref C :: bm).contains (.type "BaseException") = true := by rw [List.contains_cons, hbase, Bool.or_true]
  unfold raiseStmt
  refine wpAny_bind (wpAny_mono h (fun v s₁ h₁ => ?_) fun _ _ x => x)
  obtain ⟨e, t, D, rfl, hC, he, hE⟩ := h₁
  obtain ⟨hp, g, d, tk, os⟩ := s₁
  repeat (first | with_reducible refine wpAny_loadPart_at he ?_ | with_reducible refine wpAny_loadPart_at hC ?_ | (with_reducible refine wpAny_isSubtype_exc hC ?_; rw [hcB]) | wp_step)
  exact wpAny_raiseNew_none hh hE
end
end Mine
end

section
open PySem PySem.W PyProof.Rows
open Builtin Builtin.ObjectAttr
namespace Mine
structure ExcCls (K : Frag) (C : Addr) (cd : ClassData) : Prop where
  cls : clsIn K C = some cd
  obj : cd.mro.contains (.type "object") = true
  base : cd.mro.contains (.type "BaseException") = true
  ne : cd.mro.isEmpty = false
  pass : ∀ self : Value, refuseLoop self "__setattr__" cd.mro = pure ()
  hd : cd.hasDict = true
  sat : findIn K (.ref C) "__setattr__" = some (some (.builtin "object.__setattr__"))
  ga : findIn K (.ref C) "__getattribute__" = some (some (.builtin "BaseException.__getattribute__"))
  gh : findIn K (.ref C) "__getattr__" = some none
section
variable {prog : Program} {w : World} {A : Around} {R : Result -> Shared -> Prop} {s : Shared} {K : Frag} {x C : Addr} {cd : ClassData}
set_option tactic.hygienic false
theorem osaX_open {ox : Obj} {od : Option Obj} {name : Str} {tk : Tok} {v : Value} (EC : ExcCls K C cd) (X : K.In s.heap) (I : InstAt s.heap x ox C od) (ht : takerIn K C name = some none)
    (h : ∀ b, wpAny (model prog w) A.in1 (storeInOwnDict (.ref x) (.ref C) (.str name tk) name v b)
      (fun fin s' => match fin with | .done f => R (.ok f) s' | .again c' => c'.quiet = true /\ codeAny (model prog w) A c' R s') (fun e s' => R (.error e) s') s) :
    codeAny (model prog w) A (.call (.builtin "object.__setattr__") ⟨[.ref x, .str name tk, v], []⟩) R s := by
  have SF := PySem.F.store_object
  have hc := EC.cls
  have sub : Looks (model prog w) s.heap (isInstance (.ref x) (.type "object")) true := I.type.andThen (looks_mroIn X (by unfold mroIn; rw [hc, Option.bind_some, if_neg (by rw [EC.ne]; decide), EC.obj]))
  refine codeAny_call_builtin SF.slot.plain SF.entry (@check_slot (model prog w) _ _ s "object.__setattr__" "object" "__setattr__" (.ref x) [.str name tk, v] [] _ SF.kind SF.split sub (SF.args (.ref x) (.str name tk) v) ?_)
  obtain ⟨attr, ha, hr⟩ := Option.bind_eq_some_iff.mp ht
  have hm : Looks (model prog w) s.heap (mroOf (.ref C)) cd.mro := (looks_clsIn X hc).andThen .now
  have L3 : Looks (model prog w) s.heap (storeTaker? attr) none := by
    cases attr with
    | none => exact .now
    | some a =>
      obtain ⟨b, hb, e⟩ := Option.map_eq_some_iff.mp hr
      refine (looks_takesIn X hb).andThen ?_
      cases b with
      | false => exact .now
      | true => cases e
  rw [osa_eq, refuse_eq]
  refine wpAny_bind (wpAny_bind (I.type.here (wpAny_bind (hm.here ?_))))
  rw [EC.pass]
  refine wpAny_pure (wpAny_bind (I.type.here (wpAny_bind ((looks_findIn X ha).here (wpAny_bind (L3.here ?_))))))
  exact h _
set_option tactic.hygienic true
theorem nsSet_dict {M : Model} {D : Addr} {name : Str} {v : Value} {es : List DictEntry} {n : Nat} {Q : Unit -> Shared -> Prop} {E : Value -> Shared -> Prop} (hD : s.heap.get? D = some (dictOf es n)) (hl : (getL name es).isSome = true) (hz : es.length <= 1000)
    (h : ∀ hs h', Heap.SameBut D s.heap h' -> h'.get? D = some (dictOf (putL name hs (.str name s.toks) v es) (putN name es n)) -> Q () { s with heap := h', toks := s.toks + 1 }) :
    wpAny M A (nsSet D name v) (fun _ s₁ => wpAny M A (lookBehind D (some (.str name 0))) Q E s₁) E s := by
  unfold nsSet
  refine wpAny_bind (wpAny_bind (wpAny_askSetting (wpAny_pure (wpAny_bind (wpAny_mkText (wpAny_bind (wpAny_loadPart hD ?_)))))))
  dsimp only
  have c : (!es.toArray.any (·.key.isStr name) && es.toArray.any (·.refKey)) = false := by
    rw [<- Array.any_toList, <- Array.any_toList]
    unfold getL at hl
    split at hl
    · rename_i en he
      rw [List.any_eq_true.mpr ⟨en, List.mem_of_find?_eq_some he, List.find?_some he⟩]; rfl
    · split at hl
      · cases hl
      · rename_i z; rw [Bool.not_eq_true] at z; rw [z, Bool.and_false]
  rw [aRefKeyMayBeTheName_at, c]
  refine wpAny_updatePart hD ?_
  have hup : (s.heap.update D (Obj.putName name (PyData.keyHash M.w.params name) (.str name s.toks) v)).get? D = some (dictOf (putL name (PyData.keyHash M.w.params name) (.str name s.toks) v es) (putN name es n)) := by
    rw [Heap.get?_update_self _ hD (by rw [putName_dict]; rfl), putName_dict]
  refine wpAny_lookBehind hup (pastItsLine_dict (by have := putL_len2 name (PyData.keyHash M.w.params name) (.str name s.toks) v es; rw [List.size_toArray, sizeLine_eq]; omega)) ?_
  exact h _ _ (Heap.SameBut.update ..) hup
set_option tactic.hygienic false
theorem osaX_some {ox : Obj} {D : Addr} {name : Str} {tk : Tok} {v : Value} {es : List DictEntry} {n : Nat} (EC : ExcCls K C cd) (X : K.In s.heap) (I : InstAt s.heap x ox C (some (dictOf es n))) (hd : ox.dict = some D) (hD : s.heap.get? D = some (dictOf es n)) (ht : takerIn K C name = some none)
    (hl : (getL name es).isSome = true) (hz : es.length <= 1000)
    (h : ∀ hs h', Heap.SameBut D s.heap h' -> h'.get? D = some (dictOf (putL name hs (.str name s.toks) v es) (putN name es n)) -> R (.ok (.ret .none)) { s with heap := h', toks := s.toks + 1 }) :
    codeAny (model prog w) A (.call (.builtin "object.__setattr__") ⟨[.ref x, .str name tk, v], []⟩) R s := by
  refine osaX_open EC X I ht fun b => ?_
  have hc := EC.cls
  have hd' := EC.hd
  obtain ⟨hx, hcl, hn, -⟩ := I
  obtain ⟨oc, odi, oda, osl⟩ := ox
  dsimp only at hcl hd
  subst hcl hd
  refine wpAny_bind (wpAny_pure (wpAny_bind (wpAny_bind (wpAny_loadPart hx (wpAny_bind ((looks_clsIn X hc).here ?_))))))
  rw [hd']
  refine wpAny_pure (a := some D) (wpAny_bind (wpAny_pure ?_))
  have := nsSet_dict (M := model prog w) (A := A.in1) (v := v) (Q := fun _ s' => R (.ok (.ret .none)) s') (E := fun e s' => R (.error e) s') hD hl hz h
  show wpAny _ _ (nsSet D name v >>= fun _ => lookBehind D (some (.str name 0)) >>= fun _ => ret .none) _ _ _
  refine wpAny_bind (wpAny_mono this (fun _ s₁ h₁ => wpAny_bind (wpAny_mono h₁ (fun _ s₂ h₂ => wpAny_pure h₂) fun _ _ z => z)) fun _ _ z => z)
theorem osaX_none {ox : Obj} {name : Str} {tk : Tok} {v : Value} (EC : ExcCls K C cd) (X : K.In s.heap) (I : InstAt s.heap x ox C none) (hd : ox.dict = none) (hnf : ox.isFreed = false) (ht : takerIn K C name = some none)
    (h : ∀ hs h' n', (∀ b o, b ≠ x -> s.heap.get? b = some o -> h'.get? b = some o) -> h'.get? x = some { ox with dict := some s.heap.objs.size } -> h'.get? s.heap.objs.size = some (dictOf [⟨hs, .str name s.toks, v⟩] n') -> R (.ok (.ret .none)) { s with heap := h', toks := s.toks + 1 }) :
    codeAny (model prog w) A (.call (.builtin "object.__setattr__") ⟨[.ref x, .str name tk, v], []⟩) R s := by
  refine osaX_open EC X I ht fun b => ?_
  have hc := EC.cls
  have hd' := EC.hd
  obtain ⟨hx, hcl, hn, -⟩ := I
  obtain ⟨oc, odi, oda, osl⟩ := ox
  dsimp only at hcl hd
  subst hcl hd
  obtain ⟨hp, g, d, t, os⟩ := s
  dsimp only at hx h ⊢
  refine wpAny_bind (wpAny_pure (wpAny_bind (wpAny_bind (wpAny_loadPart hx (wpAny_bind ((looks_clsIn X hc).here ?_))))))
  rw [hd']
  have hx₁ : (hp.push { cls := .type "dict", data := .dict #[] }).get? x = some { cls := .ref C, dict := none, data := oda, slots := osl } := Heap.get?_push_of_some _ hx
  have hxs : x ≠ hp.objs.size := Nat.ne_of_lt (Heap.lt_size hx)
  have hgd : ((hp.push { cls := .type "dict", data := .dict #[] }).update x fun o => { cls := o.cls, dict := some hp.objs.size, data := o.data, slots := o.slots }).get? hp.objs.size = some (dictOf [] 0) :=
    (Heap.get?_update_ne _ _ _ _ hxs.symm).trans (Heap.get?_push_at rfl rfl)
  have hgx : ((hp.push { cls := .type "dict", data := .dict #[] }).update x fun o => { cls := o.cls, dict := some hp.objs.size, data := o.data, slots := o.slots }).get? x = some { cls := .ref C, dict := some hp.objs.size, data := oda, slots := osl } :=
    Heap.get?_update_self _ hx₁ (by unfold Obj.isFreed at hnf ⊢; cases oda <;> first | rfl | exact hnf)
  have fin : wpAny (model prog w) A.in1 (storeInDict hp.objs.size (.str name tk) name v) (fun fin s' => match fin with | .done f => R (.ok f) s' | .again c' => c'.quiet = true /\ codeAny (model prog w) A c' R s') (fun e s' => R (.error e) s')
      ⟨(hp.push { cls := .type "dict", data := .dict #[] }).update x fun o => { cls := o.cls, dict := some hp.objs.size, data := o.data, slots := o.slots }, g, d, t, os⟩ := by
    unfold storeInDict newKeyGuard
    refine wpAny_bind (wpAny_pure (wpAny_bind ?_))
    refine wpAny_mono (nsSet_dict (s := ⟨(hp.push { cls := .type "dict", data := .dict #[] }).update x fun o => { cls := o.cls, dict := some hp.objs.size, data := o.data, slots := o.slots }, g, d, t, os⟩) (M := model prog w) (A := A.in1) (v := v) (Q := fun _ s' => R (.ok (.ret .none)) s') (E := fun e s' => R (.error e) s') hgd rfl (Nat.zero_le _) fun hs h' hsb hD => ?_)
      (fun _ s₁ h₁ => wpAny_bind (wpAny_mono h₁ (fun _ s₂ h₂ => wpAny_pure h₂) fun _ _ z => z)) fun _ _ z => z
    refine h hs h' _ (fun b o hbx e => ?_) ((hsb.2 x hxs).trans hgx) hD
    exact (hsb.2 b (Nat.ne_of_lt (Heap.lt_size e))).trans ((Heap.get?_update_ne _ _ _ _ hbx).trans (Heap.get?_push_of_some _ e))
  have hcl : notCls { cls := Value.ref C, dict := none, data := oda, slots := osl } = true := hn
  cases oda with
  | cls c => cases hcl
  | _ =>
    show wpAny _ _ (alloc { cls := .type "dict", data := .dict #[] } >>= fun dd => update x (fun o => { cls := o.cls, dict := some dd, data := o.data, slots := o.slots }) >>= fun _ => dictMade (.ref C) x dd) _ _ _
    refine wpAny_bind (wpAny_alloc' ?_)
    refine wpAny_bind (wpAny_update' hx₁ ?_)
    refine wpAny_pure ?_
    exact fin
end
end Mine
end

section
open PySem PySem.W PyProof.Rows
open Builtin Builtin.ObjectAttr
namespace Mine
set_option tactic.hygienic false
theorem bexc_kind : builtinKind "BaseException.__getattribute__" = some .slot := by decide +kernel
theorem bexc_split : splitId "BaseException.__getattribute__" = some ("BaseException", "__getattribute__") := by decide +kernel
section
variable {prog : Program} {w : World} {A : Around} {R : Result -> Shared -> Prop} {E : Value -> Shared -> Prop} {s : Shared} {K : Frag} {x C : Addr} {cd : ClassData}
variable {h : Heap} {g : Array GenState} {d : Drawn} {t : Nat} {os : OsState}
theorem exc_get_call {ox : Obj} {od : Option Obj} {name : Str} {tk : Tok} {v : Value} (EC : ExcCls K C cd) (X : K.In h) (I : InstAt h x ox C od) (hf : findObj K C od name = some (.value v)) (hq : R (.ok (.ret v)) ⟨h, g, d, t, os⟩) :
    codeAny (model prog w) A (.call (.builtin "BaseException.__getattribute__") ⟨[.ref x, .str name tk], []⟩) R ⟨h, g, d, t, os⟩ := by
  have hc := EC.cls
  have sub : Looks (model prog w) h (isInstance (.ref x) (.type "BaseException")) true := I.type.andThen (looks_mroIn X (by unfold mroIn; rw [hc, Option.bind_some, if_neg (by rw [EC.ne]; decide), EC.base]))
  refine codeAny_call_builtin PySem.F.attr_Exception.ga.plain PySem.F.entry_bexc_ga (@check_slot (model prog w) _ _ ⟨h, g, d, t, os⟩ "BaseException.__getattribute__" "BaseException" "__getattribute__" (.ref x) [.str name tk] [] _ bexc_kind bexc_split sub (PySem.F.args_bexc_ga _ _) ?_)
  have L0 := I.type (M := model prog w)
  have L1 := looks_find (M := model prog w) X I hf
  unfold Builtin.«object.__getattribute__»
  repeat (any_goals (first | assumption | with_reducible refine L0.at ?_ | with_reducible refine L1.at ?_ | wp_step))
theorem exc_get_by {ox : Obj} {od : Option Obj} {name : Str} {tk : Tok} {v : Value} {fill expr : Bool} {Q : Value -> Shared -> Prop} (EC : ExcCls K C cd) (X : K.In h) (I : InstAt h x ox C od) (hf : findObj K C od name = some (.value v)) (hh : handedIn v = true)
    (hq : Q v ⟨h, g, d, t, os⟩) : wpAny (model prog w) A (getAttrBy (.ref x) (.str name tk) fill expr) Q E ⟨h, g, d, t, os⟩ := by
  have L0 := I.type (M := model prog w)
  have L1 := looks_findIn (M := model prog w) X EC.ga
  have L2 := looks_findIn (M := model prog w) X EC.gh
  have f3 := PySem.F.attr_Exception.ga.bind (.ref x)
  have hx0 : (expr && onTheHeap (Value.builtin "BaseException.__getattribute__")) = false := by cases expr <;> rfl
  have hx2 : (Value.builtin "BaseException.__getattribute__" == Value.builtin "object.__getattribute__") = false := by decide +kernel
  have hx1 : (onTheHeap (Value.ref C) && Value.builtin "BaseException.__getattribute__" == Value.builtin "object.__getattribute__") = false := by rw [hx2]; rfl
  have hho := handedOut_of hh
  repeat (any_goals (first | assumption | with_reducible refine L0.at ?_ | with_reducible refine L1.at ?_ | with_reducible refine L2.at ?_ | wp_step))
  refine exc_get_call EC X I hf ?_
  repeat (any_goals (first | assumption | (rw [hho]) | wp_step))
theorem exc_get {ox : Obj} {od : Option Obj} {name : Str} {v : Value} {expr : Bool} {Q : Value -> Shared -> Prop} (EC : ExcCls K C cd) (X : K.In h) (I : InstAt h x ox C od) (hf : findObj K C od name = some (.value v)) (hh : handedIn v = true)
    (hq : Q v ⟨h, g, d, t + 1, os⟩) : wpAny (model prog w) A (getAttr (.ref x) name expr) Q E ⟨h, g, d, t, os⟩ := by
  unfold getAttr
  repeat (any_goals (first | assumption | with_reducible apply exc_get_by EC X I hf hh | wp_step))
end
end Mine
end

section
open PySem PySem.W PyProof.Rows
namespace Mine
noncomputable abbrev n_detail : N := [100, 101, 116, 97, 105, 108]
noncomputable def FZ (B : Heap) (l : List PySem.Env) (e : Addr) (cls a0 : Value) (h : Heap) : Prop :=
  (B.StaysIn h /\ B.get? e = none /\ h.FunFrames B l /\ ∃ oe vs, h.get? e = some oe /\ oe.cls = cls /\ oe.data = .fields vs /\ vs[1]? = some .none /\ vs[0]? = some a0) \/ Heap.FlyingW B l e cls a0 h
set_option tactic.hygienic false
theorem FZ.leave {M : Model} {A : Around} {E : Value -> Shared -> Prop} {s : Shared} {B : Heap} {env : PySem.Env} {outer : List PySem.Env} {L e : Addr} {cls a0 : Value} {Q : Unit -> Shared -> Prop} (hfr : A.frames = some (env :: outer)) (hf : env.frame = some L) (z : FZ B (env :: outer) e cls a0 s.heap)
    (hQ : ∀ h', Heap.FlyingW B outer e cls a0 h' -> DK s.heap h' -> s.heap.UpToSlots h' -> Q () { s with heap := h' }) : wpAny M A (leaving env (.ref e)) Q E s := by
  refine wpAny_mono ((kd_leaving (.ref e) env).any (Q := fun _ s' => ∃ h', s' = { s with heap := h' } /\ Heap.FlyingW B outer e cls a0 h' /\ s.heap.UpToSlots h') ?_) (fun u s' hh => ?_) fun _ _ x => x
  · rcases z with ⟨z1, z2, z3, oe, vs, ho, hc, hd, h1, h0⟩ | z
    · subst hc
      refine wpAny_leaving_firstW hfr z3 hf ho z1 z2 hd h1 h0 fun h' hL => ?_
      obtain ⟨k1, ⟨_, _, k2⟩, k3, k4⟩ := hL
      exact ⟨h', rfl, ⟨k1, z2, k2, k3⟩, k4⟩
    · exact wpAny_leaves_onW hfr hf z fun h' x1 x2 => ⟨h', rfl, x1, x2⟩
  · obtain ⟨⟨h', rfl, x, u⟩, dk⟩ := hh
    exact hQ h' x dk u
section
variable (CA : ClsAt) (FX : Fix) (base : Heap) (fz : Led) (l : List PySem.Env) (H : List Addr) (news : Led) (φ : List Addr) (g : Array GenState) (d : Drawn) (os : OsState) (ce : Addr)
inductive RZ (vs : List V) (e : Value) (s' : Shared) : Prop
  | mk (ea : Addr) (a0 : Value) (B h' : Heap) (tk' : Nat) (D : Addr) (es : List DictEntry) (n : Nat) (news' : Led) (φ' : List Addr) (oe : Obj) :
  e = .ref ea -> s' = ⟨h', g, d, tk', os⟩ -> base.StaysIn B -> FZ B l ea (.ref ce) a0 h' -> h'.get? ea = some oe -> oe.dict = some D -> (D, dictOf es n) ∈ news' -> Off φ' H D -> VFs CA FX news' φ' H es [n_kind, n_at, n_detail] vs ->
  Ext H news φ news' φ' -> (∀ q ∈ news', B.get? q.1 = some q.2 /\ base.get? q.1 = none) -> FeedOk FX.pin H news' -> (news'.map (·.1)).Nodup -> (∀ p ∈ fz, (∀ vs, p.2.data ≠ .fields vs) /\ ∃ sl, h'.get? p.1 = some { p.2 with slots := sl }) -> RZ vs e s'
end
section
variable {CA : ClsAt} {FX : Fix} {base : Heap} {fz : Led} {l : List PySem.Env} {H : List Addr} {news news₂ : Led} {φ φ₂ : List Addr} {g : Array GenState} {d : Drawn} {os : OsState} {ce : Addr}
theorem RZ.of_ext {vs : List V} {e : Value} {s' : Shared} (ex : Ext H news φ news₂ φ₂) (z : RZ CA FX base fz l H news₂ φ₂ g d os ce vs e s') : RZ CA FX base fz l H news φ g d os ce vs e s' := by
  obtain ⟨ea, a0, B, h', tk', D, es, n, news', φ', oe, h1, h2, h3, h4, h5, h6, h7, h8, h9, h10, h11, h12, h13, h14⟩ := z
  exact ⟨ea, a0, B, h', tk', D, es, n, news', φ', oe, h1, h2, h3, h4, h5, h6, h7, h8, h9, ex.trans h10, h11, h12, h13, h14⟩
theorem RZ.leave {M : Model} {A : Around} {E : Value -> Shared -> Prop} {env : PySem.Env} {outer : List PySem.Env} {L : Addr} {vs : List V} {e : Value} {s : Shared} {Q : Unit -> Shared -> Prop} (hfr : A.frames = some (env :: outer)) (hf : env.frame = some L)
    (z : RZ CA FX base fz (env :: outer) H news φ g d os ce vs e s) (hQ : ∀ s', RZ CA FX base fz outer H news φ g d os ce vs e s' -> Q () s') : wpAny M A (leaving env e) Q E s := by
  obtain ⟨ea, a0, B, h', tk', D, es, n, news', φ', oe, rfl, rfl, h3, h4, h5, h6, h7, h8, h9, h10, h11, h12, h13, h14⟩ := z
  refine FZ.leave (s := ⟨h', g, d, tk', os⟩) hfr hf h4 fun h'' fl dk up => ?_
  obtain ⟨oe', e1, e2⟩ := dk ea oe h5
  refine hQ _ ⟨ea, a0, B, h'', tk', D, es, n, news', φ', oe', rfl, rfl, h3, .inr fl, e1, e2.trans h6, h7, h8, h9, h10, h11, h12, h13, fun p hp => ⟨(h14 p hp).1, ?_⟩⟩
  obtain ⟨sl, hs⟩ := (h14 p hp).2
  obtain ⟨sl', hs'⟩ := up _ _ hs (h14 p hp).1
  exact ⟨sl', hs'⟩
end
structure EnvG (env : PySem.Env) (L : Addr) (sc : List (Str × NameKind)) : Prop where
  frame : env.frame = some L
  kind : env.scope.kind = .function
  glob : env.globals = mainGlobals
  blt : env.builtins = builtinsNs
  loc : ∀ x : Str, isLoc1 sc x.cps.toList = true ↔ env.kindOf x = some .local
  gl : ∀ x : Str, isGlb1 sc x.cps.toList = true -> env.kindOf x = some .globalImplicit
structure Cx (p : Program) (loose : List Str) (base : Heap) (fz : Led) (K : Frag) (A : Around) (env top : PySem.Env) (outer : List PySem.Env) (h₀ : Heap) (L : Addr) (sc : List (Str × NameKind)) (n : Nat) : Prop where
  env_ : EnvG env L sc
  tf : top.frame = some L
  tk : top.scope.kind = .function
  below : ∃ A₀, Below A₀ base outer h₀
  fr : A.frames = some (top :: outer)
  X : K.In h₀
  T : ∃ mean mg mb, Top p loose mean mg mb h₀
  hd : A.handled = none
  dep : A.depth + n < recursionLimit
  un : A.units + 4 * n + 100 < cLine
  fz : ∀ p ∈ fz, (∀ vs, p.2.data ≠ .fields vs) /\ ∃ sl, h₀.get? p.1 = some { p.2 with slots := sl }
section
variable (prog : Program) (w : World) (CA : ClsAt) (K : Frag)
inductive FnOk (fn : Fn) (fa : Addr) : Prop
  | mk (name qual params scope dV kV doc pm an cdv ct oc od osl) (pn : List Str) :
    K.lookup fa = some ⟨oc, od, .func (PySem.W.fnOf name qual params fn.body scope dV kV doc pm an cdv ct), osl⟩ -> codeIn K cdv qual = true -> scope.names = fn.sc -> scope.isCoroutine = false -> scope.isGenerator = false -> scope.kind = .function ->
    (∀ x ∈ scope.names, x.2 ≠ .cell) -> pn.map (fun x => x.cps.toList) = fn.params -> (∀ x ∈ pn, isLoc scope.names x.cps.toList = true) -> pn.Nodup ->
    (∀ s vs, K.In s.heap -> vs.length = pn.length -> BindsTo s (PySem.W.fnOf name qual params fn.body scope dV kV doc pm an cdv ct) ⟨vs, []⟩ (pn.zip vs)) ->
    (∀ dv ds, fn.dflt = dv :: ds -> ∃ wv, (∀ pin H news φ, VR CA (FX0 prog w pin) news φ H wv dv) /\ ∀ s vs, K.In s.heap -> vs.length + 1 = pn.length -> BindsTo s (PySem.W.fnOf name qual params fn.body scope dV kV doc pm an cdv ct) ⟨vs, []⟩ (pn.zip (vs ++ [wv]))) -> FnOk fn fa
noncomputable abbrev mk (l : N) : Str := ⟨⟨l⟩⟩
structure TabOk (T : Tab) : Prop where
  fns : ∀ f fn, find T.fns f = some fn -> ∃ fa, nsIn K mainGlobals (mk f) = some (some (.ref fa)) /\ keepIn K (.ref fa) = true /\ FnOk prog w CA K fn fa
  cls : ∀ c ms, find T.cls c = some ms -> leq c n_TokenRow = false -> ∃ C, CA c = some C /\ nsIn K mainGlobals (mk c) = some (some (.ref C)) /\ keepIn K (.ref C) = true /\ makesIn K C = true /\
    ∀ f fn, find ms f = some fn -> ∃ fa, findIn K (.ref C) (mk f) = some (some (.ref fa)) /\ isFn K (.ref fa) = true /\ keepIn K (.ref fa) = true /\ FnOk prog w CA K fn fa
  none : ∀ f, f ∈ [n_len, n_max, n_range, n_list, n_sorted] -> nsIn K mainGlobals (mk f) = some none
end
end Mine
end

section
open PySem PySem.W PyProof.Rows
namespace Mine
theorem isLoc1_lookup : ∀ {sc : List (Str × NameKind)} {x : Str}, isLoc1 sc x.cps.toList = true -> sc.lookup x = some .local
  | [], x, h => by cases h
  | (y, k) :: r, x, h => by
    unfold isLoc1 at h
    rw [List.lookup_cons]
    have hb : (x == y) = leq y.cps.toList x.cps.toList := by
      rw [leq_str, Bool.eq_iff_iff, leq_iff, leq_iff]; exact eq_comm
    split at h
    · rename_i q
      rw [hb, q]
      split at h
      · rfl
      · cases h
    · rename_i q
      rw [hb, q]
      exact isLoc1_lookup h
theorem isGlb1_lookup : ∀ {sc : List (Str × NameKind)} {x : Str}, isGlb1 sc x.cps.toList = true -> sc.lookup x = some .globalImplicit
  | [], x, h => by cases h
  | (y, k) :: r, x, h => by
    unfold isGlb1 at h
    rw [List.lookup_cons]
    have hb : (x == y) = leq y.cps.toList x.cps.toList := by
      rw [leq_str, Bool.eq_iff_iff, leq_iff, leq_iff]; exact eq_comm
    split at h
    · rename_i q
      rw [hb, q]
      split at h
      · rfl
      · cases h
    · rename_i q
      rw [hb, q]
      exact isGlb1_lookup h
set_option tactic.hygienic false
theorem not_debug {x : Str} (h : leq x.cps.toList n_debug = false) : (x == ("__debug__" : Str)) = false := by
  rw [leq_str]; exact h
set_option tactic.hygienic true
theorem isLoc_iff {sc : List (Str × NameKind)} {x : Str} (h : isLoc sc x.cps.toList = true) : sc.lookup x = some .local /\ (x == ("__debug__" : Str)) = false := by
  unfold isLoc at h
  split at h
  · cases h
  · rename_i q; exact ⟨isLoc1_lookup h, not_debug q⟩
theorem isGlb_iff {sc : List (Str × NameKind)} {x : Str} (h : isGlb sc x.cps.toList = true) : sc.lookup x = some .globalImplicit /\ (x == ("__debug__" : Str)) = false := by
  unfold isGlb at h
  split at h
  · cases h
  · rename_i q; exact ⟨isGlb1_lookup h, not_debug q⟩
structure Wd where
  prog : Program
  w : World
  p : Program
  loose : List Str
  base : Heap
  K : Frag
  CA : ClsAt
  H : List Addr
  g : Array GenState
  d : Drawn
  os : OsState
  T : Tab
  ce : Addr
  pin : Led
  fz : Led
inductive NmAt (Z : Wd) (env : PySem.Env) (L : Addr) (news : Led) (φ : List Addr) (m : Str -> Option Value) (x : Str) (v : V) : Prop
  | loc {w : Value} : env.kindOf x = some .local -> env.locals = L -> m x = some w -> VR Z.CA (FX0 Z.prog Z.w Z.pin) news φ Z.H w v -> NmAt Z env L news φ m x v
  | own {oC : Obj} {mC : Str -> Option Value} {w : Value} : env.kindOf x = some .local -> (env.locals, oC) ∈ Z.pin -> LCg.NsObj oC mC -> mC x = some w -> VR Z.CA (FX0 Z.prog Z.w Z.pin) news φ Z.H w v -> NmAt Z env L news φ m x v
  | cel {c : Addr} {o : Obj} {w : Value} : (env.kindOf x = some .cell \/ env.kindOf x = some .free) -> (x == ("__classdict__" : Str)) = false -> env.cells.lookup x = some c -> (c, o) ∈ news -> Off φ Z.H c -> o.data = .cell (some w) ->
      VR Z.CA (FX0 Z.prog Z.w Z.pin) news φ Z.H w v -> NmAt Z env L news φ m x v
structure LO (Z : Wd) (env : PySem.Env) (L : Addr) (news : Led) (φ : List Addr) (m : Str -> Option Value) (ρ : Mine.Env) : Prop where
  at_ : ∀ (x : Str) (v : V), look ρ.ks ρ.vs x.cps.toList = some v -> (x == ("__debug__" : Str)) = false /\ NmAt Z env L news φ m x v
  len : ρ.ks.length = ρ.vs.length
noncomputable def Own (env top : PySem.Env) (L : Addr) : Prop := env = top /\ env.locals = L
section
variable (Z : Wd)
noncomputable abbrev SimZ (h₀ : Heap) (L : Addr) (m : Str -> Option Value) (h : Heap) (news : Led) (φ : List Addr) (σ : Hp) : Prop := Sim Z.CA (FX0 Z.prog Z.w Z.pin) Z.H h₀ L m h news φ σ
noncomputable abbrev VRZ (news : Led) (φ : List Addr) (v : Value) (x : V) : Prop := VR Z.CA (FX0 Z.prog Z.w Z.pin) news φ Z.H v x
noncomputable abbrev VRsZ (news : Led) (φ : List Addr) (v : List Value) (x : List V) : Prop := VRs Z.CA (FX0 Z.prog Z.w Z.pin) news φ Z.H v x
noncomputable abbrev CxZ (A : Around) (env top : PySem.Env) (outer : List PySem.Env) (h₀ : Heap) (L : Addr) (sc : List (Str × NameKind)) (n : Nat) : Prop := Cx Z.p Z.loose Z.base Z.fz Z.K A env top outer h₀ L sc n
noncomputable abbrev RZZ (l : List PySem.Env) (news : Led) (φ : List Addr) (vs : List V) (e : Value) (s' : Shared) : Prop := RZ Z.CA (FX0 Z.prog Z.w Z.pin) Z.base Z.fz l Z.H news φ Z.g Z.d Z.os Z.ce vs e s'
noncomputable abbrev KE (h₀ : Heap) (L : Addr) (m : Str -> Option Value) (news : Led) (φ : List Addr) (P : V -> Hp -> Prop) (Q : Value -> Shared -> Prop) : Prop := Kont Z.CA (FX0 Z.prog Z.w Z.pin) Z.H h₀ L m Z.g Z.d Z.os news φ P Q
noncomputable def KEs (h₀ : Heap) (L : Addr) (m : Str -> Option Value) (news : Led) (φ : List Addr) (P : List V -> Hp -> Prop) (Q : List Value -> Shared -> Prop) : Prop :=
  ∀ xs σ', P xs σ' -> ∀ vs h' tk' news' φ', SimZ Z h₀ L m h' news' φ' σ' -> Ext Z.H news φ news' φ' -> VRsZ Z news' φ' vs xs -> Q vs ⟨h', Z.g, Z.d, tk', Z.os⟩
noncomputable def KB (h₀ : Heap) (L : Addr) (m : Str -> Option Value) (news : Led) (φ : List Addr) (P : Bool -> Hp -> Prop) (Q : Bool -> Shared -> Prop) : Prop :=
  ∀ t σ', P t σ' -> ∀ h' tk' news' φ', SimZ Z h₀ L m h' news' φ' σ' -> Ext Z.H news φ news' φ' -> Q t ⟨h', Z.g, Z.d, tk', Z.os⟩
noncomputable def KA (env : PySem.Env) (h₀ : Heap) (L : Addr) (news : Led) (φ : List Addr) (P : Mine.Env -> Hp -> Prop) (Q : Unit -> Shared -> Prop) (ρ : Mine.Env) : Prop :=
  ∀ ρ' σ', P ρ' σ' -> ∀ h' tk' m' news' φ', SimZ Z h₀ L m' h' news' φ' σ' -> Ext Z.H news φ news' φ' -> LO Z env L news' φ' m' ρ' -> ρ'.sc = ρ.sc -> Q () ⟨h', Z.g, Z.d, tk', Z.os⟩
inductive FlR (news : Led) (φ : List Addr) : PySem.Flow -> Fl -> Prop
  | next : FlR news φ .next .next
  | brk : FlR news φ .brk .brk
  | cont : FlR news φ .cont .cont
  | ret {v : Value} {x : V} : VRZ Z news φ v x -> FlR news φ (.ret v) (.ret x)
noncomputable def KS (env : PySem.Env) (h₀ : Heap) (L : Addr) (news : Led) (φ : List Addr) (P : Fl -> Mine.Env -> Hp -> Prop) (Q : PySem.Flow -> Shared -> Prop) (ρ : Mine.Env) : Prop :=
  ∀ fl ρ' σ', P fl ρ' σ' -> ∀ f h' tk' m' news' φ', FlR Z news' φ' f fl -> SimZ Z h₀ L m' h' news' φ' σ' -> Ext Z.H news φ news' φ' -> LO Z env L news' φ' m' ρ' -> ρ'.sc = ρ.sc -> Q f ⟨h', Z.g, Z.d, tk', Z.os⟩
noncomputable def XK (l : List PySem.Env) (news : Led) (φ : List Addr) (X : List V -> Hp -> Prop) (E : Value -> Shared -> Prop) : Prop := ∀ vs σ', X vs σ' -> ∀ e s', RZZ Z l news φ vs e s' -> E e s'
section
variable {Z}
set_option tactic.hygienic false
theorem NmAt.mono {env : PySem.Env} {L : Addr} {news news₂ : Led} {φ φ₂ : List Addr} {m : Str -> Option Value} {x : Str} {v : V} (e : Ext Z.H news φ news₂ φ₂) (h : NmAt Z env L news φ m x v) : NmAt Z env L news₂ φ₂ m x v := by
  cases h with
  | loc a b c r => exact .loc a b c (r.mono e)
  | own a b c d r => exact .own a b c d (r.mono e)
  | cel a b c d o g r => exact .cel a b c (e.off d o).1 (e.off d o).2 g (r.mono e)
theorem LO.mono {env : PySem.Env} {L : Addr} {news news₂ : Led} {φ φ₂ : List Addr} {m : Str -> Option Value} {ρ : Mine.Env} (e : Ext Z.H news φ news₂ φ₂) (h : LO Z env L news φ m ρ) : LO Z env L news₂ φ₂ m ρ := ⟨fun x v q => ⟨(h.at_ x v q).1, (h.at_ x v q).2.mono e⟩, h.len⟩
theorem XK.mono {l : List PySem.Env} {news news₂ : Led} {φ φ₂ : List Addr} {X : List V -> Hp -> Prop} {E : Value -> Shared -> Prop} (e : Ext Z.H news φ news₂ φ₂) (h : XK Z l news φ X E) : XK Z l news₂ φ₂ X E :=
  fun vs σ' x ev s' z => h vs σ' x ev s' (z.of_ext e)
theorem putK_mem {x k : N} : ∀ {ks : List N}, k ∈ putK ks x -> k ∈ ks \/ k = x
  | [], h => by simp [putK] at h; exact .inr h
  | y :: r, h => by
    simp only [putK] at h
    split at h
    · exact .inl h
    · rcases List.mem_cons.mp h with h | h
      · exact .inl (h ▸ .head _)
      · rcases putK_mem h with h | h
        · exact .inl (.tail _ h)
        · exact .inr h
theorem LO.put {env : PySem.Env} {L : Addr} {news : Led} {φ : List Addr} {m : Str -> Option Value} {ρ : Mine.Env} {x : Str} {v : V} {u : Value} (h : LO Z env L news φ m ρ) (hd : (x == ("__debug__" : Str)) = false) (hl : env.kindOf x = some .local) (ho : env.locals = L) (r : VRZ Z news φ u v) :
    LO Z env L news φ (fun y => if y = x then some u else m y) (ρ.put x.cps.toList v) := by
  refine ⟨fun y w q => ?_, putL_len _ _ _ _ h.len⟩
  simp only [Env.put] at q
  rw [look_put _ _ _ _ _ h.len] at q
  by_cases hxy : leq x.cps.toList y.cps.toList = true
  · rw [if_pos hxy] at q
    cases q
    have : y = x := (str_ext (leq_iff.mp hxy)).symm
    subst this
    exact ⟨hd, .loc hl ho (by simp) r⟩
  · rw [if_neg hxy] at q
    obtain ⟨k1, k2⟩ := h.at_ y w q
    have hne : y ≠ x := fun e => hxy (by rw [e]; exact leq_iff.mpr rfl)
    refine ⟨k1, ?_⟩
    cases k2 with
    | loc a b c r => exact .loc a b (by simp [hne, c]) r
    | own a b c d r => exact .own a b c d r
    | cel a b c d o g r => exact .cel a b c d o g r
set_option tactic.hygienic true
theorem look_key : ∀ {ks : List N} {vs : List V} {x : N} {y : V}, look ks vs x = some y -> x ∈ ks
  | [], _, _, _, e => by simp [look] at e
  | _ :: _, [], _, _, e => by simp [look] at e
  | k :: ks, v :: vs, x, y, e => by
    simp only [look] at e
    split at e
    · rename_i q; rw [leq_iff.mp q]; exact .head _
    · exact .tail _ (look_key e)
set_option tactic.hygienic false
theorem Cx.down {A : Around} {env top : PySem.Env} {outer : List PySem.Env} {h₀ : Heap} {L : Addr} {sc : List (Str × NameKind)} {n k : Nat} (c : CxZ Z A env top outer h₀ L sc n) (hk : k <= n) : CxZ Z A env top outer h₀ L sc k :=
  ⟨c.env_, c.tf, c.tk, c.below, c.fr, c.X, c.T, c.hd, by have := c.dep; omega, by have := c.un; omega, c.fz⟩
end
theorem lookup_isLoc1 : ∀ {sc : List (Str × NameKind)} {x : Str}, sc.lookup x = some .local -> isLoc1 sc x.cps.toList = true
  | [], x, h => by cases h
  | (y, k) :: r, x, h => by
    unfold isLoc1
    rw [List.lookup_cons] at h
    have hb : (x == y) = leq y.cps.toList x.cps.toList := by
      rw [leq_str, Bool.eq_iff_iff, leq_iff, leq_iff]; exact eq_comm
    rw [hb] at h
    cases q : leq y.cps.toList x.cps.toList with
    | true => rw [q] at h; cases h; rfl
    | false => rw [q] at h; exact lookup_isLoc1 h
theorem envX_good {nm : Str} {scope : Scope} {L a : Addr} {cd : Value} {cl : List (Str × Addr)} (hk : scope.kind = .function) {sc : List (Str × NameKind)} (hs : scope.names = sc) : EnvG (envX nm scope L a cd cl) L sc := by
  subst hs
  exact ⟨rfl, hk, rfl, rfl, fun x => ⟨isLoc1_lookup, lookup_isLoc1⟩, fun x h => isGlb1_lookup h⟩
set_option tactic.hygienic true
theorem EnvG.locOk {env : PySem.Env} {L : Addr} {sc : List (Str × NameKind)} (g : EnvG env L sc) {x : Str} (h : isLoc sc x.cps.toList = true) : env.kindOf x = some .local /\ (x == ("__debug__" : Str)) = false := by
  unfold isLoc at h
  split at h
  · cases h
  · rename_i q; exact ⟨(g.loc x).mp h, not_debug q⟩
theorem EnvG.glOk {env : PySem.Env} {L : Addr} {sc : List (Str × NameKind)} (g : EnvG env L sc) {x : Str} (h : isGlb sc x.cps.toList = true) : env.kindOf x = some .globalImplicit /\ (x == ("__debug__" : Str)) = false := by
  unfold isGlb at h
  split at h
  · cases h
  · rename_i q; exact ⟨g.gl x h, not_debug q⟩
noncomputable def SE (n : Nat) : Prop := ∀ {A : Around} {env top : PySem.Env} {outer : List PySem.Env} {h₀ : Heap} {L : Addr} (e : PySem.Expr) (ρ : Mine.Env) (σ : Hp) (P : V -> Hp -> Prop) (X : List V -> Hp -> Prop) {h : Heap} {m : Str -> Option Value} {news : Led} {φ : List Addr} {tk : Nat} {Q E : Value -> Shared -> Prop},
  CxZ Z A env top outer h₀ L ρ.sc n -> SimZ Z h₀ L m h news φ σ -> LO Z env L news φ m ρ -> evE Z.T n e ρ σ P X -> KE Z h₀ L m news φ P Q -> XK Z (top :: outer) news φ X E -> wpAny (model Z.prog Z.w) A (eval e env) Q E ⟨h, Z.g, Z.d, tk, Z.os⟩
noncomputable def SO (n : Nat) : Prop := ∀ {A : Around} {env top : PySem.Env} {outer : List PySem.Env} {h₀ : Heap} {L : Addr} (e : Option PySem.Expr) (ρ : Mine.Env) (σ : Hp) (P : V -> Hp -> Prop) (X : List V -> Hp -> Prop) {h : Heap} {m : Str -> Option Value} {news : Led} {φ : List Addr} {tk : Nat} {Q E : Value -> Shared -> Prop},
  CxZ Z A env top outer h₀ L ρ.sc n -> SimZ Z h₀ L m h news φ σ -> LO Z env L news φ m ρ -> evO Z.T n e ρ σ P X -> KE Z h₀ L m news φ P Q -> XK Z (top :: outer) news φ X E -> wpAny (model Z.prog Z.w) A (evalPart e env) Q E ⟨h, Z.g, Z.d, tk, Z.os⟩
noncomputable def SEs (n : Nat) : Prop := ∀ {A : Around} {env top : PySem.Env} {outer : List PySem.Env} {h₀ : Heap} {L : Addr} (es : List PySem.Expr) (pos : Pos) (ρ : Mine.Env) (σ : Hp) (P : List V -> Hp -> Prop) (X : List V -> Hp -> Prop) {h : Heap} {m : Str -> Option Value} {news : Led} {φ : List Addr} {tk : Nat} {Q : List Value -> Shared -> Prop} {E : Value -> Shared -> Prop},
  CxZ Z A env top outer h₀ L ρ.sc n -> SimZ Z h₀ L m h news φ σ -> LO Z env L news φ m ρ -> noStar es = true -> evEs Z.T n es ρ σ P X -> KEs Z h₀ L m news φ P Q -> XK Z (top :: outer) news φ X E -> wpAny (model Z.prog Z.w) A (spliced (backTo pos (starEach es env))) Q E ⟨h, Z.g, Z.d, tk, Z.os⟩
noncomputable def SBool (n : Nat) : Prop := ∀ {A : Around} {env top : PySem.Env} {outer : List PySem.Env} {h₀ : Heap} {L : Addr} (op : BoolOp) (es : List PySem.Expr) (pos : Pos) (ρ : Mine.Env) (σ : Hp) (P : V -> Hp -> Prop) (X : List V -> Hp -> Prop) {h : Heap} {m : Str -> Option Value} {news : Led} {φ : List Addr} {tk : Nat} {Q E : Value -> Shared -> Prop},
  CxZ Z A env top outer h₀ L ρ.sc n -> SimZ Z h₀ L m h news φ σ -> LO Z env L news φ m ρ -> evBool Z.T n op es ρ σ P X -> KE Z h₀ L m news φ P Q -> XK Z (top :: outer) news φ X E -> wpAny (model Z.prog Z.w) A (eval (.BoolOp op es pos) env) Q E ⟨h, Z.g, Z.d, tk, Z.os⟩
noncomputable def SB (n : Nat) : Prop := ∀ {A : Around} {env top : PySem.Env} {outer : List PySem.Env} {h₀ : Heap} {L : Addr} (e : PySem.Expr) (ρ : Mine.Env) (σ : Hp) (P : Bool -> Hp -> Prop) (X : List V -> Hp -> Prop) {h : Heap} {m : Str -> Option Value} {news : Led} {φ : List Addr} {tk : Nat} {Q : Bool -> Shared -> Prop} {E : Value -> Shared -> Prop},
  CxZ Z A env top outer h₀ L ρ.sc n -> SimZ Z h₀ L m h news φ σ -> LO Z env L news φ m ρ -> evB Z.T n e ρ σ P X -> KB Z h₀ L m news φ P Q -> XK Z (top :: outer) news φ X E -> wpAny (model Z.prog Z.w) A (isTrue e env (eval e env)) Q E ⟨h, Z.g, Z.d, tk, Z.os⟩
noncomputable def SBs (n : Nat) : Prop := ∀ {A : Around} {env top : PySem.Env} {outer : List PySem.Env} {h₀ : Heap} {L : Addr} (op : BoolOp) (es : List PySem.Expr) (pos : Pos) (whole : Sem Value) (ρ : Mine.Env) (σ : Hp) (P : Bool -> Hp -> Prop) (X : List V -> Hp -> Prop) {h : Heap} {m : Str -> Option Value} {news : Led} {φ : List Addr} {tk : Nat} {Q : Bool -> Shared -> Prop} {E : Value -> Shared -> Prop},
  CxZ Z A env top outer h₀ L ρ.sc n -> SimZ Z h₀ L m h news φ σ -> LO Z env L news φ m ρ -> evBs Z.T n op es ρ σ P X -> KB Z h₀ L m news φ P Q -> XK Z (top :: outer) news φ X E -> wpAny (model Z.prog Z.w) A (isTrue (.BoolOp op es pos) env whole) Q E ⟨h, Z.g, Z.d, tk, Z.os⟩
inductive CalleeOf : N -> Value -> Prop
  | fn {f : N} {fn : Fn} {fa : Addr} : find Z.T.fns f = some fn -> nsIn Z.K mainGlobals (mk f) = some (some (.ref fa)) -> keepIn Z.K (.ref fa) = true -> FnOk Z.prog Z.w Z.CA Z.K fn fa -> CalleeOf f (.ref fa)
  | pick {f : N} {fa : Addr} : find Z.T.fns f = Option.none -> leq f n_pick = true -> nsIn Z.K mainGlobals (mk f) = some (some (.ref fa)) -> keepIn Z.K (.ref fa) = true -> CalleeOf f (.ref fa)
  | sorted {f : N} : find Z.T.fns f = Option.none -> leq f n_pick = false -> leq f n_sorted = true -> CalleeOf f (.builtin "sorted")
  | len {f : N} : find Z.T.fns f = Option.none -> leq f n_pick = false -> leq f n_sorted = false -> leq f n_len = true -> CalleeOf f (.builtin "len")
  | max {f : N} : find Z.T.fns f = Option.none -> leq f n_pick = false -> leq f n_sorted = false -> leq f n_max = true -> CalleeOf f (.builtin "max")
  | range {f : N} : find Z.T.fns f = Option.none -> leq f n_pick = false -> leq f n_sorted = false -> leq f n_range = true -> CalleeOf f (.type "range")
  | list {f : N} : find Z.T.fns f = Option.none -> leq f n_pick = false -> leq f n_sorted = false -> leq f n_list = true -> CalleeOf f (.type "list")
  | simple {f : N} {ks : List N} {C : Addr} : find Z.T.fns f = Option.none -> leq f n_pick = false -> leq f n_sorted = false -> isPrim f = false -> find Z.T.simple f = some ks -> nsIn Z.K mainGlobals (mk f) = some (some (.ref C)) -> keepIn Z.K (.ref C) = true -> Z.CA f = some C -> CalleeOf f (.ref C)
  | row {f : N} {ms : List (N × Fn)} {C : Addr} : find Z.T.fns f = Option.none -> leq f n_pick = false -> leq f n_sorted = false -> isPrim f = false -> find Z.T.simple f = Option.none -> find Z.T.cls f = some ms -> leq f n_TokenRow = true -> nsIn Z.K mainGlobals (mk f) = some (some (.ref C)) -> keepIn Z.K (.ref C) = true -> Z.CA f = some C -> CalleeOf f (.ref C)
  | cls {f : N} {ms : List (N × Fn)} {C : Addr} : find Z.T.fns f = Option.none -> leq f n_pick = false -> leq f n_sorted = false -> isPrim f = false -> find Z.T.simple f = Option.none -> find Z.T.cls f = some ms -> leq f n_TokenRow = false -> nsIn Z.K mainGlobals (mk f) = some (some (.ref C)) -> keepIn Z.K (.ref C) = true -> Z.CA f = some C -> makesIn Z.K C = true ->
      (∀ f fn, find ms f = some fn -> ∃ fa, findIn Z.K (.ref C) (mk f) = some (some (.ref fa)) /\ isFn Z.K (.ref fa) = true /\ keepIn Z.K (.ref fa) = true /\ FnOk Z.prog Z.w Z.CA Z.K fn fa) -> CalleeOf f (.ref C)
  | orc {f : N} {t : List V -> (V -> Prop) -> Prop} {fa : Addr} : find Z.T.fns f = Option.none -> leq f n_pick = false -> leq f n_sorted = false -> isPrim f = false -> find Z.T.simple f = Option.none -> find Z.T.cls f = Option.none -> find Z.T.orcs f = some t -> nsIn Z.K mainGlobals (mk f) = some (some (.ref fa)) -> keepIn Z.K (.ref fa) = true -> CalleeOf f (.ref fa)
noncomputable def SF (n : Nat) : Prop := ∀ {A : Around} {env top : PySem.Env} {outer : List PySem.Env} {h₀ : Heap} {L : Addr} {sc : List (Str × NameKind)} {f : N} {fv : Value} (vs : List Value) (xs : List V) (σ : Hp) (P : V -> Hp -> Prop) (X : List V -> Hp -> Prop) {h : Heap} {m : Str -> Option Value} {news : Led} {φ : List Addr} {tk : Nat} {Q E : Value -> Shared -> Prop},
  CalleeOf Z f fv -> CxZ Z A env top outer h₀ L sc n -> SimZ Z h₀ L m h news φ σ -> VRsZ Z news φ vs xs -> evF Z.T n f xs σ P X -> KE Z h₀ L m news φ P Q -> XK Z (top :: outer) news φ X E -> wpAny (model Z.prog Z.w) A (call fv vs) Q E ⟨h, Z.g, Z.d, tk, Z.os⟩
noncomputable def SD (n : Nat) : Prop := ∀ {A : Around} {env top : PySem.Env} {outer : List PySem.Env} {h₀ : Heap} {L : Addr} {sc : List (Str × NameKind)} {fn : Fn} {fa : Addr} (vs : List Value) (xs : List V) (σ : Hp) (P : V -> Hp -> Prop) (X : List V -> Hp -> Prop) {h : Heap} {m : Str -> Option Value} {news : Led} {φ : List Addr} {tk : Nat} {Q E : Value -> Shared -> Prop},
  FnOk Z.prog Z.w Z.CA Z.K fn fa -> CxZ Z A env top outer h₀ L sc n -> SimZ Z h₀ L m h news φ σ -> VRsZ Z news φ vs xs -> evD Z.T n fn xs σ P X -> KE Z h₀ L m news φ P Q -> XK Z (top :: outer) news φ X E ->
  codeAny (model Z.prog Z.w) A (.call (.ref fa) ⟨vs, []⟩) (fun r s' => match r with | .ok (.ret v) => Q v s' | .ok _ => False | .error e => E e s') ⟨h, Z.g, Z.d, tk, Z.os⟩
inductive MethOf (σ : Hp) (news : Led) (φ : List Addr) : V -> N -> Value -> List Value -> Prop
  | row {i : Nat} {C f : N} {u : Value} {Ca fa : Addr} : leq C n_TokenRow = true -> leq f n_next_token = true -> VRZ Z news φ u (.obj C i) -> Z.CA C = some Ca -> findIn Z.K (.ref Ca) (mk f) = some (some (.ref fa)) -> keepIn Z.K (.ref fa) = true -> MethOf σ news φ (.obj C i) f (.ref fa) [u]
  | inst {i : Nat} {C f : N} {u : Value} {ms : List (N × Fn)} {fn : Fn} {fa : Addr} : leq C n_TokenRow = false -> find Z.T.cls C = some ms -> find ms f = some fn -> VRZ Z news φ u (.obj C i) -> keepIn Z.K (.ref fa) = true -> FnOk Z.prog Z.w Z.CA Z.K fn fa -> MethOf σ news φ (.obj C i) f (.ref fa) [u]
  | append {i : Nat} {f : N} {u : Value} : leq f n_append = true -> VRZ Z news φ u (.lst i) -> MethOf σ news φ (.lst i) f (.builtin "list.append") [u]
  | dget {l : List (N × N × N)} {f : N} {u : Value} : leq f n_get = true -> VRZ Z news φ u (.dct l) -> MethOf σ news φ (.dct l) f (.builtin "dict.get") [u]
  | sget {ks : List N} {l : List V} {f : N} {u : Value} : leq f n_get = true -> VRZ Z news φ u (.sdct ks l) -> MethOf σ news φ (.sdct ks l) f (.builtin "dict.get") [u]
noncomputable def SM (n : Nat) : Prop := ∀ {A : Around} {env top : PySem.Env} {outer : List PySem.Env} {h₀ : Heap} {L : Addr} {sc : List (Str × NameKind)} {f : N} {x : V} {fv : Value} {first : List Value} (vs : List Value) (xs : List V) (σ : Hp) (P : V -> Hp -> Prop) (X : List V -> Hp -> Prop) {h : Heap} {m : Str -> Option Value} {news : Led} {φ : List Addr} {tk : Nat} {Q E : Value -> Shared -> Prop},
  MethOf Z σ news φ x f fv first -> CxZ Z A env top outer h₀ L sc n -> SimZ Z h₀ L m h news φ σ -> VRsZ Z news φ vs xs -> evM Z.T n x f xs σ P X -> KE Z h₀ L m news φ P Q -> XK Z (top :: outer) news φ X E -> wpAny (model Z.prog Z.w) A (call fv (first ++ vs)) Q E ⟨h, Z.g, Z.d, tk, Z.os⟩
noncomputable def SA (n : Nat) : Prop := ∀ {A : Around} {env top : PySem.Env} {outer : List PySem.Env} {h₀ : Heap} {L : Addr} (t : PySem.Expr) (v : V) (ρ : Mine.Env) (σ : Hp) (P : Mine.Env -> Hp -> Prop) (X : List V -> Hp -> Prop) {h : Heap} {m : Str -> Option Value} {news : Led} {φ : List Addr} {tk : Nat} {u : Value} {Q : Unit -> Shared -> Prop} {E : Value -> Shared -> Prop},
  Own env top L -> CxZ Z A env top outer h₀ L ρ.sc n -> SimZ Z h₀ L m h news φ σ -> LO Z env L news φ m ρ -> VRZ Z news φ u v -> evA Z.T n t v ρ σ P X -> KA Z env h₀ L news φ P Q ρ -> XK Z (top :: outer) news φ X E -> wpAny (model Z.prog Z.w) A (assign t env u) Q E ⟨h, Z.g, Z.d, tk, Z.os⟩
noncomputable def SS (n : Nat) : Prop := ∀ {A : Around} {env top : PySem.Env} {outer : List PySem.Env} {h₀ : Heap} {L : Addr} (s : Stmt) (ρ : Mine.Env) (σ : Hp) (P : Fl -> Mine.Env -> Hp -> Prop) (X : List V -> Hp -> Prop) {h : Heap} {m : Str -> Option Value} {news : Led} {φ : List Addr} {tk : Nat} {Q : PySem.Flow -> Shared -> Prop} {E : Value -> Shared -> Prop},
  Own env top L -> CxZ Z A env top outer h₀ L ρ.sc n -> SimZ Z h₀ L m h news φ σ -> LO Z env L news φ m ρ -> evS Z.T n s ρ σ P X -> KS Z env h₀ L news φ P Q ρ -> XK Z (top :: outer) news φ X E -> PassesOwn (model Z.prog Z.w) A env E -> wpAny (model Z.prog Z.w) A (exec s env) Q E ⟨h, Z.g, Z.d, tk, Z.os⟩
noncomputable def SSs (n : Nat) : Prop := ∀ {A : Around} {env top : PySem.Env} {outer : List PySem.Env} {h₀ : Heap} {L : Addr} (ss : List Stmt) (ρ : Mine.Env) (σ : Hp) (P : Fl -> Mine.Env -> Hp -> Prop) (X : List V -> Hp -> Prop) {h : Heap} {m : Str -> Option Value} {news : Led} {φ : List Addr} {tk : Nat} {Q : PySem.Flow -> Shared -> Prop} {E : Value -> Shared -> Prop},
  Own env top L -> CxZ Z A env top outer h₀ L ρ.sc n -> SimZ Z h₀ L m h news φ σ -> LO Z env L news φ m ρ -> evSs Z.T n ss ρ σ P X -> KS Z env h₀ L news φ P Q ρ -> XK Z (top :: outer) news φ X E -> PassesOwn (model Z.prog Z.w) A env E -> wpAny (model Z.prog Z.w) A (execs ss env) Q E ⟨h, Z.g, Z.d, tk, Z.os⟩
structure OK (n : Nat) : Prop where
  e : SE Z n
  o : SO Z n
  es : SEs Z n
  bool : SBool Z n
  b : SB Z n
  bs : SBs Z n
  f : SF Z n
  d : SD Z n
  m : SM Z n
  a : SA Z n
  s : SS Z n
  ss : SSs Z n
structure Prims : Prop where
  pick : ∀ {A : Around} {env top : PySem.Env} {outer : List PySem.Env} {h₀ : Heap} {L : Addr} {sc : List (Str × NameKind)} {n : Nat} {fa : Addr} {u : Value} {k : Nat} {t : Tok} {σ : Hp} {h : Heap} {m : Str -> Option Value} {news : Led} {φ : List Addr} {tk : Nat} {Q E : Value -> Shared -> Prop},
    nsIn Z.K mainGlobals (mk n_pick) = some (some (.ref fa)) -> CxZ Z A env top outer h₀ L sc (n + 1) -> SimZ Z h₀ L m h news φ σ -> VRZ Z news φ u .feed -> k <= 4096 ->
    (∀ i h' tk' news' t', i < k + 1 -> SimZ Z h₀ L m h' news' φ σ -> Ext Z.H news φ news' φ -> Q (.int (.ofNat i) t') ⟨h', Z.g, Z.d, tk', Z.os⟩) ->
    wpAny (model Z.prog Z.w) A (call (.ref fa) [u, .int (.ofNat (k + 1)) t]) Q E ⟨h, Z.g, Z.d, tk, Z.os⟩
  simple : ∀ {A : Around} {env top : PySem.Env} {outer : List PySem.Env} {h₀ : Heap} {L : Addr} {sc : List (Str × NameKind)} {n : Nat} {f : N} {ks : List N} {C : Addr} {vs : List Value} {xs : List V} {σ : Hp} {h : Heap} {m : Str -> Option Value} {news : Led} {φ : List Addr} {tk : Nat} {P : V -> Hp -> Prop} {Q E : Value -> Shared -> Prop},
    find Z.T.simple f = some ks -> nsIn Z.K mainGlobals (mk f) = some (some (.ref C)) -> Z.CA f = some C -> ks.length = xs.length -> CxZ Z A env top outer h₀ L sc (n + 4) -> SimZ Z h₀ L m h news φ σ -> VRsZ Z news φ vs xs -> P (.ins f ks xs) σ -> KE Z h₀ L m news φ P Q ->
    wpAny (model Z.prog Z.w) A (call (.ref C) vs) Q E ⟨h, Z.g, Z.d, tk, Z.os⟩
  row : ∀ {A : Around} {env top : PySem.Env} {outer : List PySem.Env} {h₀ : Heap} {L : Addr} {sc : List (Str × NameKind)} {n : Nat} {C : Addr} {u : Value} {l : List V} {σ : Hp} {h : Heap} {m : Str -> Option Value} {news : Led} {φ : List Addr} {tk : Nat} {P : V -> Hp -> Prop} {Q E : Value -> Shared -> Prop},
    nsIn Z.K mainGlobals (mk n_TokenRow) = some (some (.ref C)) -> Z.CA n_TokenRow = some C -> CxZ Z A env top outer h₀ L sc (n + 4) -> SimZ Z h₀ L m h news φ σ -> VRZ Z news φ u (.vls l) -> P (.obj n_TokenRow σ.length) (σ ++ [.row [] l (.bool false)]) -> KE Z h₀ L m news φ P Q ->
    wpAny (model Z.prog Z.w) A (call (.ref C) [u]) Q E ⟨h, Z.g, Z.d, tk, Z.os⟩
  next : ∀ {A : Around} {env top : PySem.Env} {outer : List PySem.Env} {h₀ : Heap} {L : Addr} {sc : List (Str × NameKind)} {n : Nat} {Ca fa : Addr} {u : Value} {i : Nat} {σ : Hp} {h : Heap} {m : Str -> Option Value} {news : Led} {φ : List Addr} {tk : Nat} {P : V -> Hp -> Prop} {Q E : Value -> Shared -> Prop} {pre rest : List V} {pt : V},
    Z.CA n_TokenRow = some Ca -> findIn Z.K (.ref Ca) (mk n_next_token) = some (some (.ref fa)) -> CxZ Z A env top outer h₀ L sc (n + 20) -> SimZ Z h₀ L m h news φ σ -> VRZ Z news φ u (.obj n_TokenRow i) -> σ[i]? = some (.row pre rest pt) ->
    nextL pre rest pt i σ P -> KE Z h₀ L m news φ P Q ->
    wpAny (model Z.prog Z.w) A (call (.ref fa) [u]) Q E ⟨h, Z.g, Z.d, tk, Z.os⟩
  nextAt : ∃ Ca fa, Z.CA n_TokenRow = some Ca /\ findIn Z.K (.ref Ca) (mk n_next_token) = some (some (.ref fa)) /\ isFn Z.K (.ref fa) = true /\ keepIn Z.K (.ref fa) = true
  raise : ∀ {A : Around} {env top : PySem.Env} {outer : List PySem.Env} {h₀ : Heap} {L : Addr} {sc : List (Str × NameKind)} {n : Nat} {σ : Hp} {h : Heap} {m : Str -> Option Value} {news : Led} {φ : List Addr} {tk : Nat} {pos cpos : Pos} {np : Pos} {Q : PySem.Flow -> Shared -> Prop} {E : Value -> Shared -> Prop} {C : Str} {es : List PySem.Expr},
    leq C.cps.toList n_src = true -> isGlb sc C.cps.toList = true -> es.length = 3 -> noStar es = true -> Own env top L -> CxZ Z A env top outer h₀ L sc (n + 4) -> SimZ Z h₀ L m h news φ σ ->
    wpAny (model Z.prog Z.w) A (spliced (backTo cpos (starEach es env))) (fun vs s₁ => ∃ xs h₁ tk₁ news₁ φ₁ σ₁, s₁ = ⟨h₁, Z.g, Z.d, tk₁, Z.os⟩ /\ SimZ Z h₀ L m h₁ news₁ φ₁ σ₁ /\ VRsZ Z news₁ φ₁ vs xs /\ vs.length = 3 /\ ∀ e s', RZZ Z (top :: outer) news₁ φ₁ xs e s' -> E e s') E ⟨h, Z.g, Z.d, tk, Z.os⟩ ->
    wpAny (model Z.prog Z.w) A (exec (.Raise (some (.Call (.Name C np) es [] cpos)) none pos) env) Q E ⟨h, Z.g, Z.d, tk, Z.os⟩
  orc : ∀ {A : Around} {env top : PySem.Env} {outer : List PySem.Env} {h₀ : Heap} {L : Addr} {sc : List (Str × NameKind)} {n : Nat} {f : N} {t : List V -> (V -> Prop) -> Prop} {fa : Addr} {vs : List Value} {xs : List V} {h : Heap} {m : Str -> Option Value} {news : Led} {φ : List Addr} {tk : Nat} {P : V -> Hp -> Prop} {Q E : Value -> Shared -> Prop},
    find Z.T.orcs f = some t -> nsIn Z.K mainGlobals (mk f) = some (some (.ref fa)) -> CxZ Z A env top outer h₀ L sc (n + 300) -> SimZ Z h₀ L m h news φ [] -> VRsZ Z news φ vs xs -> t xs (fun v => P v []) -> KE Z h₀ L m news φ P Q ->
    wpAny (model Z.prog Z.w) A (call (.ref fa) vs) Q E ⟨h, Z.g, Z.d, tk, Z.os⟩
structure Wk : Prop where
  kok : KOk Z.K Z.CA
  tab : TabOk Z.prog Z.w Z.CA Z.K Z.T
  prims : Prims Z
  simple : ∀ f ks, find Z.T.simple f = some ks -> ∃ C, nsIn Z.K mainGlobals (mk f) = some (some (.ref C)) /\ keepIn Z.K (.ref C) = true /\ Z.CA f = some C
  row : ∃ C, nsIn Z.K mainGlobals (mk n_TokenRow) = some (some (.ref C)) /\ keepIn Z.K (.ref C) = true /\ Z.CA n_TokenRow = some C
  pick : ∃ fa, nsIn Z.K mainGlobals (mk n_pick) = some (some (.ref fa)) /\ keepIn Z.K (.ref fa) = true
  orc : ∀ f t, find Z.T.orcs f = some t -> ∃ fa, nsIn Z.K mainGlobals (mk f) = some (some (.ref fa)) /\ keepIn Z.K (.ref fa) = true
end
end Mine
end

section
open PySem PySem.W PyProof.Rows
namespace Mine
set_option tactic.hygienic false
theorem swapped_ok {t value : PySem.Expr} {env : PySem.Env} (h : okSwap t value = true) : swappedStores [t] value env = pure none := by
  cases t <;> first | rfl | (cases value <;> first | rfl | exact tF h)
section
variable {T : Tab} {n : Nat} {ρ : Mine.Env} {σ : Hp} {X : List V -> Hp -> Prop} {G : Prop}
noncomputable abbrev compArm (T : Tab) (n : Nat) (elt t it : PySem.Expr) (scope : Scope) (tks : List N) (fvs : List V) (ρ : Mine.Env) (Q : V -> Hp -> Prop) (X : List V -> Hp -> Prop) : Prop := evE T n it ρ [] (fun w σ₁ => nilP σ₁ (oP (fun l =>
  compL (fun v K => oP (fun tvs => ifB (Nat.beq tks.length tvs.length) (evE T n elt ⟨ρ.fn, scope.names, tks ++ freeK scope.names, tvs ++ fvs⟩ [] (fun y σ' => nilP σ' (K y)) (fun _ _ => False))) (tvals t v)) l [] (fun ys => Q (.vls ys) [])) (forItems [] w))) X
set_option tactic.hygienic true
theorem evE_cases {e : PySem.Expr} {Q : V -> Hp -> Prop} (hw : evE T (n + 1) e ρ σ Q X)
    (k1 : ∀ c k p v, e = .Constant c k p -> cV c = some v -> Q v σ -> G)
    (k2 : ∀ x p v, e = .Name x p -> look ρ.ks ρ.vs x.cps.toList = some v -> Q v σ -> G)
    (k3 : ∀ l op r p, e = .BinOp l op r p -> evE T n l ρ σ (fun a σ₁ => evE T n r ρ σ₁ (fun b σ₂ => binW σ₂ op a b Q) X) X -> G)
    (k4 : ∀ i k p q, e = .UnaryOp .USub (.Constant (.int i) k p) q -> Q (.int (-i)) σ -> G)
    (k5 : ∀ op es p, e = .BoolOp op es p -> evBool T n op es ρ σ Q X -> G)
    (k6 : ∀ c a b p, e = .IfExp c a b p -> evB T n c ρ σ (fun t σ₁ => match t with
      | true => evE T n a ρ σ₁ Q X
      | false => evE T n b ρ σ₁ Q X) X -> G)
    (k7 : ∀ l op r p, e = .Compare l [op] [r] p -> isSet r = false -> evE T n l ρ σ (fun a σ₁ => evE T n r ρ σ₁ (fun b σ₂ => cmpW σ₂ op a b Q) X) X -> G)
    (k8 : ∀ es k p, e = .Tuple es k p -> noStar es = true -> evEs T n es ρ σ (fun vs σ₁ => fits vs (Q (.tup vs) σ₁)) X -> G)
    (k9 : ∀ es p, e = .List es p -> noStar es = true -> evEs T n es ρ σ (fun vs σ₁ => fits vs (Q (.vls vs) σ₁)) X -> G)
    (k10 : ∀ ks es p ns vs, e = .Dict ks es p -> keyStrs ks = some ns -> consts es = some vs -> dctOk ns vs = true -> Q (.sdct ns vs) σ -> G)
    (k11 : ∀ o f p, e = .Attribute o f p -> baseOk o = true -> evE T n o ρ σ (fun v σ₁ => oP (fun r => Q r σ₁) (attrF σ₁ v f.cps.toList)) X -> G)
    (k12 : ∀ o lo hi p q, e = .Subscript o (.Slice lo hi Option.none p) q -> evE T n o ρ σ (fun v σ₁ => evO T n lo ρ σ₁ (fun a σ₂ => evO T n hi ρ σ₂ (fun b σ₃ => sliceW σ₃ v a b Q) X) X) X -> G)
    (k13 : ∀ o i p, e = .Subscript o i p -> plainIdx i = true -> evE T n o ρ σ (fun v σ₁ => evE T n i ρ σ₁ (fun k σ₂ => oP (fun r => Q r σ₂) (itemF σ₂ v k)) X) X -> G)
    (k14 : ∀ elt t it scope p tks fvs, e = .ListComp elt [⟨t, it, [], 0⟩] scope p -> (isFun scope.kind && scpOk scope.names && scpOnce scope.names && allFine (freeK scope.names) && noLoc ρ.sc (freeK scope.names)) = true -> σ = [] -> tgts t = some tks -> (allLoc scope.names tks && nodupN tks) = true -> freeV ρ.ks ρ.vs (freeK scope.names) = some fvs -> compArm T n elt t it scope tks fvs ρ Q X -> G)
    (k15 : ∀ f p e1 r q, e = .Call (.Name f p) (e1 :: r) [] q -> isGlb ρ.sc f.cps.toList = true -> noStar (e1 :: r) = true -> known T f.cps.toList = true -> evEs T n (e1 :: r) ρ σ (fun vs σ₁ => evF T n f.cps.toList vs σ₁ Q X) X -> G)
    (k16 : ∀ o f ap es cp, e = .Call (.Attribute o f ap) es [] cp -> baseOk o = true -> noStar es = true -> Nat.blt es.length 29 = true -> Nat.beq ap.endLine cp.line = true -> evE T n o ρ σ (fun v σ₁ => ifB (knownM T σ₁ v f.cps.toList) (evEs T n es ρ σ₁ (fun vs σ₂ => evM T n v f.cps.toList vs σ₂ Q X) X)) X -> G) : G := by
  suffices hs : ∀ e', e' = e -> evE T (n + 1) e' ρ σ Q X -> G from hs e rfl hw
  clear hw
  intro e' he hw
  cases e'
  case Constant c k p => obtain ⟨v, h1, h⟩ := oP_e hw; exact k1 _ _ _ _ he.symm h1 h
  case Name x p => obtain ⟨v, h1, h⟩ := oP_e hw; exact k2 _ _ _ he.symm h1 h
  case BinOp l op r p => exact k3 _ _ _ _ he.symm hw
  case UnaryOp op x p => obtain ⟨i, h1, h⟩ := oP_e hw; obtain ⟨rfl, _, _, rfl⟩ := usubI_e h1; exact k4 _ _ _ _ he.symm h
  case BoolOp op es p => exact k5 _ _ _ he.symm hw
  case IfExp c a b p => exact k6 _ _ _ _ he.symm hw
  case Compare l ops rs p =>
    obtain ⟨p, h1, h⟩ := oP_e hw
    obtain ⟨rfl, rfl⟩ := cmp1_e h1
    cases hb : isSet p.2 with
    | false => exact k7 _ _ _ _ he.symm hb (sel_f hb h)
    | true => exact (sel_t hb h).elim
  case Tuple es k p => obtain ⟨h1, h⟩ := ifB_e hw; exact k8 _ _ _ he.symm h1 h
  case List es p => obtain ⟨h1, h⟩ := ifB_e hw; exact k9 _ _ he.symm h1 h
  case Dict ks es p =>
    obtain ⟨ns, h1, h⟩ := oP_e hw
    obtain ⟨vs, h2, h⟩ := oP_e h
    obtain ⟨h3, h⟩ := ifB_e h
    exact k10 _ _ _ _ _ he.symm h1 h2 h3 h
  case Attribute o f p => obtain ⟨h1, h⟩ := ifB_e hw; exact k11 _ _ _ he.symm h1 h
  case Subscript o i p =>
    cases h1 : sliceOf i with
    | none => exact k13 _ _ _ he.symm (sliceOf_n h1) (sel_n h1 hw)
    | some s =>
      have h := sel_s h1 hw
      obtain ⟨s, rfl, h⟩ := oP_e h
      obtain ⟨q, rfl⟩ := sliceOf_s h1
      exact k12 _ _ _ _ _ he.symm h
  case ListComp elt gens scope p =>
    obtain ⟨q, h1, h⟩ := oP_e hw
    obtain rfl := gen1_e h1
    obtain ⟨h2, h⟩ := ifB_e h
    obtain ⟨h3, h⟩ := nilP_e h
    obtain ⟨tks, h4, h⟩ := oP_e h
    obtain ⟨h5, h⟩ := ifB_e h
    obtain ⟨fvs, h6, h⟩ := oP_e h
    exact k14 _ _ _ _ _ _ _ he.symm h2 h3 h4 h5 h6 h
  case Call f es ks q =>
    obtain ⟨rfl, h⟩ := nilP_e hw
    cases f
    case Name x p =>
      obtain ⟨h1, h⟩ := ifB_e h
      obtain ⟨h2, h⟩ := ifB_e h
      obtain ⟨h3, h⟩ := ifB_e h
      obtain ⟨h4, h⟩ := ifB_e h
      obtain ⟨_, _, rfl⟩ := consB_e h3
      exact k15 _ _ _ _ _ he.symm h1 h2 h4 h
    case Attribute o f ap =>
      obtain ⟨h1, h⟩ := ifB_e h
      obtain ⟨h2, h⟩ := ifB_e h
      obtain ⟨h3, h⟩ := ifB_e h
      obtain ⟨h4, h⟩ := ifB_e h
      exact k16 _ _ _ _ _ he.symm h1 h2 h3 h4 h
    all_goals exact False.elim h
  all_goals exact False.elim hw
theorem evS_cases {s : Stmt} {Q : Fl -> Mine.Env -> Hp -> Prop} (hw : evS T (n + 1) s ρ σ Q X)
    (k1 : ∀ e p, s = .Expr e p -> isComp e = false -> evE T n e ρ σ (fun _ σ₁ => Q .next ρ σ₁) X -> G)
    (k2 : ∀ x p es q pos, s = .Assign [.Name x p] (.List es q) pos -> isLoc ρ.sc x.cps.toList = true -> noStar es = true -> (match isMut T ρ.fn x.cps.toList with
      | true => evEs T n es ρ σ (fun vs σ₁ => fits vs (Q .next (ρ.put x.cps.toList (.lst σ₁.length)) (σ₁ ++ [.list vs]))) X
      | false => evEs T n es ρ σ (fun vs σ₁ => fits vs (Q .next (ρ.put x.cps.toList (.vls vs)) σ₁)) X) -> G)
    (k3 : ∀ t value pos, s = .Assign [t] value pos -> plain1 t = true -> isComp value = false -> (∀ env, swappedStores [t] value env = pure none) -> evE T n value ρ σ (fun v σ₁ => evA T n t v ρ σ₁ (fun ρ₂ σ₂ => Q .next ρ₂ σ₂) X) X -> G)
    (k4 : ∀ c a b p, s = .If c a b p -> evB T n c ρ σ (fun t σ₁ => match t with
      | true => evSs T n a ρ σ₁ Q X
      | false => evSs T n b ρ σ₁ Q X) X -> G)
    (k5 : ∀ e p, s = .Return (some e) p -> evE T n e ρ σ (fun v σ₁ => Q (.ret v) ρ σ₁) X -> G)
    (k6 : ∀ c b p, s = .While c b [] p -> evS T (n + 1) (.While c b [] p) ρ σ Q X -> G)
    (k7 : ∀ t it b p, s = .For t it b [] p -> evE T n it ρ σ (fun w σ₁ => oP (fun l => forL (fun v ρ' σ' Q' => evA T n t v ρ' σ' (fun ρ₂ σ₂ => evSs T n b ρ₂ σ₂ Q' X) X) Q l ρ σ₁) (forItems σ₁ w)) X -> G)
    (k8 : ∀ C q es cp p, s = .Raise (some (.Call (.Name C q) es [] cp)) Option.none p -> isGlb ρ.sc C.cps.toList = true -> leq C.cps.toList n_src = true -> es.length = 3 -> noStar es = true -> Nat.ble 4 n = true -> evEs T n es ρ σ (fun vs σ₁ => ifB (Nat.beq vs.length 3) (X vs σ₁)) X -> G) : G := by
  suffices hs : ∀ s', s' = s -> evS T (n + 1) s' ρ σ Q X -> G from hs s rfl hw
  clear hw
  intro s' he hw
  cases s'
  case Expr e p =>
    cases hb : isComp e with
    | false => exact k1 _ _ he.symm hb (sel_f hb hw)
    | true => exact (sel_t hb hw).elim
  case Assign ts value pos =>
    obtain ⟨t, h1, h⟩ := oP_e hw
    obtain rfl := one1_e h1
    cases h2 : listTo t value with
    | some p =>
      have h := sel_s h2 h
      obtain ⟨h3, h⟩ := ifB_e h
      obtain ⟨h4, g⟩ := ifB_e h
      obtain ⟨_, _, rfl, rfl⟩ := listTo_e h2
      exact k2 _ _ _ _ _ he.symm h3 h4 g
    | none =>
      obtain ⟨h3, h⟩ := ifB_e (sel_n h2 h)
      cases hb : isComp value with
      | true => exact (sel_t hb h).elim
      | false =>
        obtain ⟨h4, h⟩ := ifB_e (sel_f hb h)
        exact k3 _ _ _ he.symm h3 hb (fun env => swapped_ok h4) h
  case If c a b p => exact k4 _ _ _ _ he.symm hw
  case Return e p => obtain ⟨e, rfl, h⟩ := oP_e hw; exact k5 _ _ he.symm h
  case While c b e p => obtain ⟨rfl, _⟩ := nilP_e hw; exact k6 _ _ _ he.symm hw
  case For t it b e p => obtain ⟨rfl, h⟩ := nilP_e hw; exact k7 _ _ _ _ he.symm h
  case Raise x y p =>
    obtain ⟨q, h1, h⟩ := oP_e hw
    obtain ⟨_, _, _, rfl, rfl, e⟩ := raiseOf_e h1
    rw [e] at h
    obtain ⟨h2, h⟩ := ifB_e h
    obtain ⟨h3, h⟩ := ifB_e h
    obtain ⟨h4, h⟩ := ifB_e h
    obtain ⟨h5, h⟩ := ifB_e h
    obtain ⟨h6, h⟩ := ifB_e h
    exact k8 _ _ _ _ _ he.symm h2 h3 (Nat.eq_of_beq_eq_true h4) h5 h6 h
  all_goals exact False.elim hw
end
end Mine
end

section
open PySem PySem.W PyProof.Rows
namespace Mine
theorem attributeBase_ok {o : PySem.Expr} (h : baseOk o = true) (attr : Str) (env : PySem.Env) (whole : Sem Value) : attributeBase o attr env whole = whole := by
  cases o
  case Call f _ _ _ => cases f <;> first | rfl | exact tF h
  all_goals rfl
set_option tactic.hygienic false
theorem starEach_ok {e : PySem.Expr} {r : List PySem.Expr} {env : PySem.Env} (h : plain1 e = true) : starEach (e :: r) env = (false, eval e env) :: starEach r env := by
  cases e <;> first | rfl | (unfold plain1 at h; cases h)
set_option tactic.hygienic true
theorem noStar_cons {e : PySem.Expr} {r : List PySem.Expr} (h : noStar (e :: r) = true) : plain1 e = true /\ noStar r = true := by
  unfold noStar at h
  split at h
  · rename_i q; exact ⟨q, h⟩
  · cases h
set_option tactic.hygienic false
theorem noStar_any : ∀ {r : List PySem.Expr} {env : PySem.Env} {pos : Pos}, noStar r = true -> (backTo pos (starEach r env)).any (·.1) = false
  | [], _, _, _ => rfl
  | e :: r, env, pos, h => by
    obtain ⟨h1, h2⟩ := noStar_cons h
    rw [starEach_ok h1]
    have := @noStar_any r env pos h2
    simp only [backTo, List.map_cons, List.any_cons] at this ⊢
    rw [this]; rfl
theorem marks_ok {op : CmpOp} {r : PySem.Expr} (h : isSet r = false) : behindInMarks op r = false := by
  cases r <;> first | rfl | (unfold isSet at h; cases h)
section
variable {Z : Wd} {n : Nat}
theorem okO (ih : OK Z n) : SO Z (n + 1) := by
  intro A env top outer h₀ L e ρ σ P X h m news φ tk Q E C S O hw hK hX
  cases e with
  | none =>
    refine wpAny_of_eq (evalPart_none env) ?_
    exact hK _ _ hw _ _ _ _ _ S (.refl _ _ _) .none
  | some e =>
    exact ih.e e ρ σ P X (C.down (Nat.le_succ n)) S O hw hK hX
theorem okEs (ih : OK Z n) : SEs Z (n + 1) := by
  intro A env top outer h₀ L es pos ρ σ P X h m news φ tk Q E C S O hs hw hK hX
  cases es with
  | nil =>
    exact spliced_none (hK _ _ hw _ _ _ _ _ S (.refl _ _ _) .nil)
  | cons e r =>
    obtain ⟨h1, h2⟩ := noStar_cons hs
    have C' := C.down (Nat.le_succ n)
    refine spliced_more (ih.e e ρ σ _ X C' S O hw (fun x σ₁ p v h₁ tk₁ news₁ φ₁ S₁ E₁ r₁ => ?_) hX) (starEach_ok h1)
    refine ih.es r pos ρ σ₁ _ X C' S₁ (O.mono E₁) h2 p (fun xs σ₂ p₂ vs h₂ tk₂ news₂ φ₂ S₂ E₂ r₂ => ?_) (hX.mono E₁)
    exact hK _ _ p₂ _ _ _ _ _ S₂ (E₁.trans E₂) (.cons (r₁.mono E₂) r₂)
theorem truthy_bool {M : Model} {A : Around} {E : Value -> Shared -> Prop} {s : Shared} {b : Bool} {Q : Bool -> Shared -> Prop} (h : Q b s) : wpAny M A (truthy (.bool b)) Q E s := fun _ _ _ => h
theorem okBool (ih : OK Z n) : SBool Z (n + 1) := by
  intro A env top outer h₀ L op es pos ρ σ P X h m news φ tk Q E C S O hw hK hX
  have C' := C.down (Nat.le_succ n)
  rcases es with _ | ⟨e, _ | ⟨e', r⟩⟩
  · exact False.elim hw
  · exact BoolOp_one (ih.e _ ρ σ P X C' S O hw hK hX)
  · cases op with
    | And =>
      refine BoolOp_and (ih.e e ρ σ _ X C' S O hw (fun x σ₁ p v h₁ tk₁ news₁ φ₁ S₁ E₁ r₁ => ?_) hX)
      obtain ⟨t, rfl, p⟩ := boolOf_e p
      obtain rfl := r₁.bool_e
      refine truthy_bool ?_
      cases t with
      | true => exact ih.bool .And (e' :: r) pos ρ σ₁ P X C' S₁ (O.mono E₁) p (fun y σ₂ q w h₂ tk₂ news₂ φ₂ S₂ E₂ r₂ => hK _ _ q _ _ _ _ _ S₂ (E₁.trans E₂) r₂) (hX.mono E₁)
      | false => exact hK _ _ p _ _ _ _ _ S₁ E₁ (.bool _)
    | Or =>
      refine BoolOp_or (ih.e e ρ σ _ X C' S O hw (fun x σ₁ p v h₁ tk₁ news₁ φ₁ S₁ E₁ r₁ => ?_) hX)
      obtain ⟨t, rfl, p⟩ := boolOf_e p
      obtain rfl := r₁.bool_e
      refine truthy_bool ?_
      cases t with
      | false => exact ih.bool .Or (e' :: r) pos ρ σ₁ P X C' S₁ (O.mono E₁) p (fun y σ₂ q w h₂ tk₂ news₂ φ₂ S₂ E₂ r₂ => hK _ _ q _ _ _ _ _ S₂ (E₁.trans E₂) r₂) (hX.mono E₁)
      | true => exact hK _ _ p _ _ _ _ _ S₁ E₁ (.bool _)
set_option tactic.hygienic true
theorem isTrue_flat {e : PySem.Expr} {env : PySem.Env} {whole : Sem Value} (hb : isB e = false) (hc : isCmp e = false) : ∃ p, isTrue e env whole = (do let v <- whole; standAt p; holding [v] (truthy v)) := by
  cases e
  case UnaryOp op x p => cases op <;> first | exact ⟨_, rfl⟩ | exact tF hb.symm
  case BoolOp => exact tF hb.symm
  case IfExp => exact tF hb.symm
  case Compare => exact tF hc.symm
  all_goals exact ⟨_, rfl⟩
set_option tactic.hygienic false
theorem isTrue_any {M : Model} {A : Around} {E : Value -> Shared -> Prop} {s : Shared} {env : PySem.Env} {e : PySem.Expr} {Q : Bool -> Shared -> Prop} (h : wpAny M A (eval e env) (fun v s₁ => ∃ b, v = .bool b /\ Q b s₁) E s)
    (hb : isB e = false) (h4 : ∀ l ops rs p, e = .Compare l ops rs p -> ∃ op r, ops = [op] /\ rs = [r]) :
    wpAny M A (isTrue e env (eval e env)) Q E s := by
  cases hc : isCmp e with
  | true =>
    obtain ⟨l, ops, rs, p, rfl⟩ := isCmp_e hc
    obtain ⟨op, r, rfl, rfl⟩ := h4 l ops rs p rfl
    intro Γ q hΓ
    have hh := h Γ q hΓ
    rw [isTrue_Compare1]
    have e : eval (.Compare l [op] [r] p) env = (do let a <- eval l env; let b <- holding [a] (markedBehindIn op r (eval r env)); standAt p; operate [a, b] (compareOp op a b)) := rfl
    rw [e] at hh
    simp only [Sem.wp_bind'] at hh ⊢
    refine Sem.wp_mono M Γ _ (fun a p₁ s₁ h₁ => ?_) (fun _ _ _ x => x) _ _ hh
    refine Sem.wp_mono M Γ _ (fun b p₂ s₂ h₂ => ?_) (fun _ _ _ x => x) _ _ h₁
    refine Sem.wp_mono M Γ _ (fun _ p₃ s₃ h₃ => ?_) (fun _ _ _ x => x) _ _ h₂
    refine Sem.wp_mono M Γ _ (fun c p₄ s₄ h₄ => ?_) (fun _ _ _ x => x) _ _ h₃
    obtain ⟨b, rfl, hq⟩ := h₄
    exact wpAny_holding (truthy_bool hq) Γ p₄ hΓ
  | false =>
    obtain ⟨p, e1⟩ := isTrue_flat (env := env) (whole := eval e env) hb hc
    rw [e1]
    exact wpAny_bind (wpAny_mono h (fun v s₁ h₁ => wpAny_bind (wpAny_standAt (wpAny_holding (by obtain ⟨b, rfl, q⟩ := h₁; exact truthy_bool q)))) fun _ _ x => x)
theorem okBs (ih : OK Z n) : SBs Z (n + 1) := by
  intro A env top outer h₀ L op es pos whole ρ σ P X h m news φ tk Q E C S O hw hK hX
  have C' := C.down (Nat.le_succ n)
  cases es with
  | nil =>
    cases op with
    | And => exact isTrue_and_nil (hK _ _ hw _ _ _ _ S (.refl _ _ _))
    | Or => exact isTrue_or_nil (hK _ _ hw _ _ _ _ S (.refl _ _ _))
  | cons e r =>
    cases op with
    | And =>
      refine isTrue_and (ih.b e ρ σ _ X C' S O hw (fun t σ₁ p h₁ tk₁ news₁ φ₁ S₁ E₁ => ?_) hX)
      cases t with
      | true => simp only [if_true]; exact ih.bs .And r pos whole ρ σ₁ P X C' S₁ (O.mono E₁) p (fun y σ₂ q h₂ tk₂ news₂ φ₂ S₂ E₂ => hK _ _ q _ _ _ _ S₂ (E₁.trans E₂)) (hX.mono E₁)
      | false => simp only [Bool.false_eq_true, if_false]; exact hK _ _ p _ _ _ _ S₁ E₁
    | Or =>
      refine isTrue_or (ih.b e ρ σ _ X C' S O hw (fun t σ₁ p h₁ tk₁ news₁ φ₁ S₁ E₁ => ?_) hX)
      cases t with
      | false => simp only [Bool.false_eq_true, if_false]; exact ih.bs .Or r pos whole ρ σ₁ P X C' S₁ (O.mono E₁) p (fun y σ₂ q h₂ tk₂ news₂ φ₂ S₂ E₂ => hK _ _ q _ _ _ _ S₂ (E₁.trans E₂)) (hX.mono E₁)
      | true => simp only [if_true]; exact hK _ _ p _ _ _ _ S₁ E₁
theorem cmp_one {n : Nat} {T : Tab} {l : PySem.Expr} {ops : List CmpOp} {rs : List PySem.Expr} {p : Pos} {ρ : Mine.Env} {σ : Hp} {P : V -> Hp -> Prop} {X : List V -> Hp -> Prop} (h : evE T n (.Compare l ops rs p) ρ σ P X) : ∃ op r, ops = [op] /\ rs = [r] := by
  cases n with
  | zero => exact False.elim h
  | succ n =>
    match ops, rs with
    | [op], [r] => exact ⟨op, r, rfl, rfl⟩
    | [], _ => exact False.elim h
    | [_], [] => exact False.elim h
    | [_], _ :: _ :: _ => exact False.elim h
    | _ :: _ :: _, _ => exact False.elim h
set_option tactic.hygienic true
theorem evB_e {T : Tab} {n : Nat} {e : PySem.Expr} {ρ : Mine.Env} {σ : Hp} {P : Bool -> Hp -> Prop} {X : List V -> Hp -> Prop} (h : evB T (n + 1) e ρ σ P X) :
    (∃ x p, e = .UnaryOp .Not x p /\ evB T n x ρ σ (fun t σ₁ => P (!t) σ₁) X) \/ (∃ op es p, e = .BoolOp op es p /\ evBs T n op es ρ σ P X) \/ (isB e = false /\ evE T n e ρ σ (boolOf P) X) := by
  cases e
  case UnaryOp op x p => cases op <;> first | exact .inl ⟨x, p, rfl, h⟩ | exact .inr (.inr ⟨rfl, h⟩)
  case BoolOp op es p => exact .inr (.inl ⟨op, es, p, rfl, h⟩)
  case IfExp => exact False.elim h
  all_goals exact .inr (.inr ⟨rfl, h⟩)
set_option tactic.hygienic false
theorem okB (ih : OK Z n) : SB Z (n + 1) := by
  intro A env top outer h₀ L e ρ σ P X h m news φ tk Q E C S O hw hK hX
  have C' := C.down (Nat.le_succ n)
  rcases evB_e hw with ⟨x, p, rfl, hw⟩ | ⟨op, es, p, rfl, hw⟩ | ⟨hb, hw⟩
  · exact isTrue_not (ih.b _ ρ σ _ X C' S O hw (fun t σ₁ p h₁ tk₁ news₁ φ₁ S₁ E₁ => hK _ _ p _ _ _ _ S₁ E₁) hX)
  · exact ih.bs _ _ _ _ ρ σ P X C' S O hw hK hX
  · refine isTrue_any (ih.e e ρ σ _ X C' S O hw (fun x σ₁ p v h₁ tk₁ news₁ φ₁ S₁ E₁ r₁ => ?_) hX) hb fun l ops rs p he => cmp_one (he ▸ hw)
    obtain ⟨t, rfl, p⟩ := boolOf_e p
    exact ⟨t, r₁.bool_e, hK _ _ p _ _ _ _ S₁ E₁⟩
end
end Mine
end

section
open PySem PySem.W PySem.Calls PyProof.Rows
namespace Mine
section
variable {Z : Wd} {n : Nat}
set_option tactic.hygienic false
theorem mk_eq (x : Str) : mk x.cps.toList = x := str_ext rfl
theorem leq_eq {a b : N} (h : leq a b = true) : a = b := leq_iff.mp h
set_option tactic.hygienic true
theorem callee_ex (W : Wk Z) {f : N} (h : known Z.T f = true) : ∃ fv, CalleeOf Z f fv := by
  unfold known at h
  split at h
  · rename_i fn hf
    obtain ⟨fa, h1, h2, h3⟩ := W.tab.fns _ _ hf
    exact ⟨_, .fn hf h1 h2 h3⟩
  · rename_i hf
    split at h
    · rename_i hp
      obtain ⟨fa, h1, h2⟩ := W.pick
      have e := leq_eq hp
      exact ⟨_, .pick hf hp (e ▸ h1) h2⟩
    · rename_i hp
      split at h
      · rename_i hs
        exact ⟨_, .sorted hf hp hs⟩
      · rename_i hs
        split at h
        · rename_i hi
          unfold isPrim at hi
          rw [memN_iff] at hi
          simp only [List.mem_cons, List.not_mem_nil, or_false] at hi
          rcases hi with e | e | e | e
          · exact ⟨_, .len hf hp hs (leq_iff.mpr e)⟩
          · exact ⟨_, .max hf hp hs (leq_iff.mpr e)⟩
          · exact ⟨_, .range hf hp hs (leq_iff.mpr e)⟩
          · exact ⟨_, .list hf hp hs (leq_iff.mpr e)⟩
        · rename_i hi
          split at h
          · rename_i ks hk
            obtain ⟨C, h1, h2, h3⟩ := W.simple _ _ hk
            exact ⟨_, .simple hf hp hs hi hk h1 h2 h3⟩
          · rename_i hk
            split at h
            · rename_i ms hc
              cases hr : leq f n_TokenRow with
              | true =>
                obtain ⟨C, h1, h2, h3⟩ := W.row
                have e := leq_eq hr
                exact ⟨_, .row hf hp hs hi hk hc hr (e ▸ h1) h2 (e ▸ h3)⟩
              | false =>
                obtain ⟨C, h1, h2, h3, h4, h5⟩ := W.tab.cls _ _ hc hr
                exact ⟨_, .cls hf hp hs hi hk hc hr h2 h3 h1 h4 h5⟩
            · rename_i hc
              split at h
              · rename_i t ho
                obtain ⟨fa, h1, h2⟩ := W.orc _ _ ho
                exact ⟨_, .orc hf hp hs hi hk hc ho h1 h2⟩
              · cases h
set_option tactic.hygienic false
theorem name_ref {A : Around} {env top : PySem.Env} {outer : List PySem.Env} {h₀ : Heap} {L : Addr} {sc : List (Str × NameKind)} {x : Str} {np : Pos} {σ : Hp} {h : Heap} {m : Str -> Option Value} {news : Led} {φ : List Addr} {tk : Nat} {Q E : Value -> Shared -> Prop} {fv : Value}
    (C : CxZ Z A env top outer h₀ L sc n) (S : SimZ Z h₀ L m h news φ σ) (hg : isGlb sc x.cps.toList = true) (e : nsIn Z.K mainGlobals x = some (some fv)) (hq : Q fv ⟨h, Z.g, Z.d, tk, Z.os⟩) :
    wpAny (model Z.prog Z.w) A (eval (.Name x np) env) Q E ⟨h, Z.g, Z.d, tk, Z.os⟩ := by
  obtain ⟨mean, mg, mb, T⟩ := C.T
  obtain ⟨g1, g2⟩ := C.env_.glOk hg
  have T' := topRead_of T
  exact Name_function_global C.env_.kind g1 (loadGlobal_global (s := ⟨h, Z.g, Z.d, tk, Z.os⟩) (by rw [C.env_.glob]; exact T'.g.keeps S.F.keep) (mg_of C.X T'.g e) hq) g2
theorem name_bi {A : Around} {env top : PySem.Env} {outer : List PySem.Env} {h₀ : Heap} {L : Addr} {sc : List (Str × NameKind)} {x : Str} {np : Pos} {σ : Hp} {h : Heap} {m : Str -> Option Value} {news : Led} {φ : List Addr} {tk : Nat} {Q E : Value -> Shared -> Prop} {fv : Value}
    (C : CxZ Z A env top outer h₀ L sc n) (S : SimZ Z h₀ L m h news φ σ) (hg : isGlb sc x.cps.toList = true) (e : nsIn Z.K mainGlobals x = some none) (hb : bootBuiltins x = some fv) (hn : x ≠ "__name__") (hq : Q fv ⟨h, Z.g, Z.d, tk, Z.os⟩) :
    wpAny (model Z.prog Z.w) A (eval (.Name x np) env) Q E ⟨h, Z.g, Z.d, tk, Z.os⟩ := by
  obtain ⟨mean, mg, mb, T⟩ := C.T
  obtain ⟨g1, g2⟩ := C.env_.glOk hg
  have T' := topRead_of T
  exact Name_function_global C.env_.kind g1 (loadGlobal_builtin (s := ⟨h, Z.g, Z.d, tk, Z.os⟩) (by rw [C.env_.glob]; exact T'.g.keeps S.F.keep) (mg_none_of C.X T'.g e) (by rw [C.env_.blt]; exact T'.b.keeps S.F.keep) ((T'.builtins x hn).trans hb) hq) g2
theorem ne_name {l : N} (h : leq l [95, 95, 110, 97, 109, 101, 95, 95] = false) : mk l ≠ ("__name__" : Str) := fun e => by
  have : l = [95, 95, 110, 97, 109, 101, 95, 95] := by
    have := congrArg (fun s : Str => s.cps.toList) e
    exact this
  rw [leq_iff.mpr this] at h; cases h
theorem callee_name (W : Wk Z) {A : Around} {env top : PySem.Env} {outer : List PySem.Env} {h₀ : Heap} {L : Addr} {sc : List (Str × NameKind)} {x : Str} {np : Pos} {σ : Hp} {h : Heap} {m : Str -> Option Value} {news : Led} {φ : List Addr} {tk : Nat} {Q E : Value -> Shared -> Prop} {fv : Value}
    (c : CalleeOf Z x.cps.toList fv) (C : CxZ Z A env top outer h₀ L sc n) (S : SimZ Z h₀ L m h news φ σ) (hg : isGlb sc x.cps.toList = true) (hq : Q fv ⟨h, Z.g, Z.d, tk, Z.os⟩) :
    wpAny (model Z.prog Z.w) A (eval (.Name x np) env) Q E ⟨h, Z.g, Z.d, tk, Z.os⟩ := by
  have bi : ∀ {l : N} {fv : Value}, leq x.cps.toList l = true -> l ∈ [n_len, n_max, n_range, n_list, n_sorted] -> bootBuiltins (mk l) = some fv -> leq l [95, 95, 110, 97, 109, 101, 95, 95] = false -> Q fv ⟨h, Z.g, Z.d, tk, Z.os⟩ ->
      wpAny (model Z.prog Z.w) A (eval (.Name x np) env) Q E ⟨h, Z.g, Z.d, tk, Z.os⟩ := fun {l fv} e hm hb hn hq => by
    have e1 : x = mk l := str_ext (leq_eq e)
    refine name_bi C S hg (e1 ▸ W.tab.none _ hm) (e1 ▸ hb) (e1 ▸ ne_name hn) hq
  cases c with
  | fn _ e _ _ => exact name_ref C S hg (mk_eq x ▸ e) hq
  | pick _ _ e _ => exact name_ref C S hg (mk_eq x ▸ e) hq
  | sorted _ _ e => exact bi e (by simp) (by decide +kernel) rfl hq
  | len _ _ _ e => exact bi e (by simp) (by decide +kernel) rfl hq
  | max _ _ _ e => exact bi e (by simp) (by decide +kernel) rfl hq
  | range _ _ _ e => exact bi e (by simp) (by decide +kernel) rfl hq
  | list _ _ _ e => exact bi e (by simp) (by decide +kernel) rfl hq
  | simple _ _ _ _ _ e _ _ => exact name_ref C S hg (mk_eq x ▸ e) hq
  | row _ _ _ _ _ _ _ e _ _ => exact name_ref C S hg (mk_eq x ▸ e) hq
  | cls _ _ _ _ _ _ _ e _ _ _ _ => exact name_ref C S hg (mk_eq x ▸ e) hq
  | orc _ _ _ _ _ _ _ e _ => exact name_ref C S hg (mk_eq x ▸ e) hq
theorem callee_with {A : Around} {env : PySem.Env} {h₀ : Heap} {e : PySem.Expr} {r : List PySem.Expr} {cp : Pos} {f : N} {fv : Value} {s : Shared} {Q E : Value -> Shared -> Prop} (c : CalleeOf Z f fv) (X : Z.K.In h₀) (hs : noStar (e :: r) = true)
    (h : wpAny (model Z.prog Z.w) A (spliced (backTo cp (starEach (e :: r) env))) (fun vs s₁ => Z.K.In s₁.heap /\ wpAny (model Z.prog Z.w) A (call fv vs) Q E s₁) E s) :
    wpAny (model Z.prog Z.w) A (callWith cp fv [] (backTo cp (starEach (e :: r) env)) []) Q E s := by
  obtain ⟨h1, h2⟩ := noStar_cons hs
  have ref : ∀ {a : Addr}, fv = .ref a -> keepIn Z.K (.ref a) = true -> wpAny (model Z.prog Z.w) A (callWith cp fv [] (backTo cp (starEach (e :: r) env)) []) Q E s := fun {a} ea k => by
    subst ea
    exact callWith_K X k h (starEach_ok h1) (noStar_any h2)
  have bi : ∀ {i : String}, fv = .builtin i -> wpAny (model Z.prog Z.w) A (callWith cp fv [] (backTo cp (starEach (e :: r) env)) []) Q E s := fun {i} ea => by
    subst ea
    exact callWith_method1 (wpAny_mono h (fun vs s₁ hh => hh.2) fun _ _ x => x) (starEach_ok h1) (noStar_any h2)
  have ty : ∀ {i : String}, fv = .type i -> wpAny (model Z.prog Z.w) A (callWith cp fv [] (backTo cp (starEach (e :: r) env)) []) Q E s := fun {i} ea => by
    subst ea
    exact Pv.callWith_type1 (wpAny_mono h (fun vs s₁ hh => hh.2) fun _ _ x => x) (starEach_ok h1) (noStar_any h2)
  cases c with
  | fn _ _ k _ => exact ref rfl k
  | pick _ _ _ k => exact ref rfl k
  | sorted _ _ _ => exact bi rfl
  | len _ _ _ _ => exact bi rfl
  | max _ _ _ _ => exact bi rfl
  | range _ _ _ _ => exact ty rfl
  | list _ _ _ _ => exact ty rfl
  | simple _ _ _ _ _ _ k _ => exact ref rfl k
  | row _ _ _ _ _ _ _ _ k _ => exact ref rfl k
  | cls _ _ _ _ _ _ _ _ k _ _ _ => exact ref rfl k
  | orc _ _ _ _ _ _ _ _ k => exact ref rfl k
theorem no_ref {CA : ClsAt} {FX : Fix} {news : Led} {φ H : List Addr} {es : List DictEntry} : ∀ {ks : List N} {l : List V}, VFs CA FX news φ H es ks l -> es.any (·.refKey) = false := by
  induction es with
  | nil => intro _ _ _; rfl
  | cons en es ih =>
    intro ks l r
    cases r with
    | cons hk rv rs => exact ih rs
theorem memN_cons {k x : N} {r : List N} (h : memN (k :: r) x = false) : leq k x = false /\ memN r x = false := by
  revert h
  show (match leq k x with
    | true => true
    | false => memN r x) = false -> _
  cases leq k x
  · exact fun h => ⟨rfl, h⟩
  · exact fun h => tF h.symm
theorem slot_none {es : List DictEntry} {ks : List N} {l : List V} {FX : Fix} {news : Led} {φ H : List Addr} {CA : ClsAt} (r : VFs CA FX news φ H es ks l) {x : Str} (h : memN ks x.cps.toList = false) : getL x es = some none := by
  have hf : es.find? (fun e => e.key.isStr x) = none := by
    induction es generalizing ks l with
    | nil => rfl
    | cons en es ih =>
      cases r with
      | @cons hh s t v _ k z ks' l' hk rv rs =>
        obtain ⟨q, h⟩ := memN_cons h
        rw [List.find?_cons, show (⟨hh, Value.str s t, v⟩ : DictEntry).key.isStr x = false from (show (s == x) = _ by rw [leq_str, hk]; exact q)]
        exact ih rs h
  unfold getL
  rw [hf, no_ref r]; rfl
set_option tactic.hygienic true
theorem knownM_e {T : Tab} {σ : Hp} {v : V} {f : N} (h : knownM T σ v f = true) : (∃ C i, v = .obj C i /\ ((leq C n_TokenRow = true /\ leq f n_next_token = true /\ ∃ pre rest pt, σ[i]? = some (.row pre rest pt)) \/ (leq C n_TokenRow = false /\ ∃ ks l ms fn, σ[i]? = some (.inst ks l) /\ memN ks f = false /\ find T.cls C = some ms /\ find ms f = some fn))) \/
    (∃ i l, v = .lst i /\ leq f n_append = true /\ σ[i]? = some (.list l)) \/ (leq f n_get = true /\ ((∃ l, v = .dct l) \/ ∃ ks l, v = .sdct ks l)) := by
  cases v
  case obj C i =>
    refine .inl ⟨C, i, rfl, ?_⟩
    revert h
    show (match leq C n_TokenRow with
      | true => match rowAt σ i with
        | true => leq f n_next_token
        | false => false
      | false => match instAt σ i with
        | some ks => match memN ks f with
          | false => match find T.cls C with
            | some ms => match find ms f with
              | some _ => true
              | none => false
            | none => false
          | true => false
        | none => false) = true -> _
    cases leq C n_TokenRow with
    | true =>
      cases q : rowAt σ i with
      | true => exact fun h => .inl ⟨rfl, h, rowAt_e q⟩
      | false => exact tF
    | false =>
      cases q : instAt σ i with
      | none => exact tF
      | some ks =>
        show (match memN ks f with
          | false => match find T.cls C with
            | some ms => match find ms f with
              | some _ => true
              | none => false
            | none => false
          | true => false) = true -> _
        cases q2 : memN ks f with
        | true => exact tF
        | false =>
          cases q3 : find T.cls C with
          | none => exact tF
          | some ms =>
            show (match find ms f with
              | some _ => true
              | none => false) = true -> _
            cases q4 : find ms f with
            | none => exact tF
            | some fn => obtain ⟨l, hs⟩ := instAt_e q; exact fun _ => .inr ⟨rfl, ks, l, ms, fn, hs, q2, rfl, q4⟩
  case lst i =>
    refine .inr (.inl ?_)
    revert h
    show (match leq f n_append with
      | true => match lstAt σ i with
        | some _ => true
        | none => false
      | false => false) = true -> _
    cases leq f n_append with
    | false => exact tF
    | true =>
      cases q : lstAt σ i with
      | none => exact tF
      | some l => exact fun _ => ⟨i, l, rfl, rfl, lstAt_e q⟩
  case dct l => exact .inr (.inr ⟨h, .inl ⟨l, rfl⟩⟩)
  case sdct ks l => exact .inr (.inr ⟨h, .inr ⟨ks, l, rfl⟩⟩)
  all_goals exact tF h
set_option tactic.hygienic false
theorem meth_get (W : Wk Z) {A : Around} {env top : PySem.Env} {outer : List PySem.Env} {h₀ : Heap} {L : Addr} {sc : List (Str × NameKind)} {σ : Hp} {h : Heap} {m : Str -> Option Value} {news : Led} {φ : List Addr} {tk : Nat} {v : Value} {x : V} {f : Str} {pl : Sem Bool} {Q : Value × List Value -> Shared -> Prop} {E : Value -> Shared -> Prop}
    (C : CxZ Z A env top outer h₀ L sc n) (S : SimZ Z h₀ L m h news φ σ) (rv : VRZ Z news φ v x) (hk : knownM Z.T σ x f.cps.toList = true)
    (hq : ∀ fv first, MethOf Z σ news φ x f.cps.toList fv first -> Q (fv, first) ⟨h, Z.g, Z.d, tk, Z.os⟩) : wpAny (model Z.prog Z.w) A (getMethod v f pl) Q E ⟨h, Z.g, Z.d, tk, Z.os⟩ := by
  rcases knownM_e hk with ⟨c, i, rfl, ⟨hr, hkn, pre, rest, pt, hs⟩ | ⟨hr, ks, l, ms, fn, hs, hmem, hc, hf⟩⟩ | ⟨i, l, rfl, ha, hs⟩ | ⟨hkn, ⟨l, rfl⟩ | ⟨ks, l, rfl⟩⟩
  · obtain ⟨Ca, fa, h1, h2, h3, h4⟩ := W.prims.nextAt
    obtain rfl := leq_eq hr
    have ef := leq_eq hkn
    have fe : f = mk n_next_token := str_ext ef
    have hm := hq _ _ (.row hr hkn rv h1 (ef ▸ h2) h4)
    obtain ⟨a, Cc, dd, rfl, hC, mm, o, hi⟩ := rv.obj_e
    obtain rfl : Ca = Cc := Option.some.inj (h1.symm.trans hC)
    obtain ⟨_, _, mm2, r⟩ := (S.or_at hs hi).row_e
    exact method_inst (s := ⟨h, Z.g, Z.d, tk, Z.os⟩) S.F C.X (InstAt.of_news S.N mm mm2) (W.kok.get _ _ h1 f) (fe ▸ h2) h3 (slot_none r (by rw [ef]; rfl)) hm
  · obtain ⟨Cc, h1, h2, h3, h4, h5⟩ := W.tab.cls _ _ hc hr
    obtain ⟨fa, g1, g2, g3, g4⟩ := h5 _ _ hf
    have hm := hq _ _ (.inst hr hc hf rv g3 g4)
    obtain ⟨a, Cc', dd, rfl, hC, mm, o, hi⟩ := rv.obj_e
    obtain rfl : Cc = Cc' := Option.some.inj (h1.symm.trans hC)
    obtain ⟨_, _, mm2, r⟩ := (S.or_at hs hi).inst_e
    exact method_inst (s := ⟨h, Z.g, Z.d, tk, Z.os⟩) S.F C.X (InstAt.of_news S.N mm mm2) (W.kok.get _ _ h1 f) (mk_eq f ▸ g1) g2 (slot_none r hmem) hm
  · have hm := hq _ _ (.append ha rv)
    obtain rfl : f = ("append" : Str) := str_ext (leq_eq ha)
    obtain ⟨a, rfl, hi⟩ := rv.lst_e
    obtain ⟨_, _, mm2, r, z⟩ := (S.or_at hs hi).list_e
    exact Calls.getMethod_list_append (s := ⟨h, Z.g, Z.d, tk, Z.os⟩) (S.N.get mm2) rfl rfl hm
  · have hm := hq _ _ (.dget hkn rv)
    obtain rfl : f = ("get" : Str) := str_ext (leq_eq hkn)
    obtain ⟨_, _, rfl, hn, ft⟩ := rv.dct_e
    exact getMethod_tupTab_get (s := ⟨h, Z.g, Z.d, tk, Z.os⟩) S.N (TupTab.mono ft.1 fun p hp => (hn p hp).1) hm
  · have hm := hq _ _ (.sget hkn rv)
    obtain rfl : f = ("get" : Str) := str_ext (leq_eq hkn)
    obtain ⟨_, _, rfl, mm, o, ft, s⟩ := rv.sdct_e
    obtain ⟨kvs, D, hd, hf, hD, hok⟩ := ft
    exact getMethod_strTab_get (s := ⟨h, Z.g, Z.d, tk, Z.os⟩) (sd_tab (w := Z.w) S.N mm s hd hf) hm
end
end Mine
end

section
open PySem PySem.W PyProof.Rows
namespace Mine
section
variable {Z : Wd} {n : Nat}
set_option tactic.hygienic false
theorem meth_with {A : Around} {env : PySem.Env} {h₀ : Heap} {es : List PySem.Expr} {cp : Pos} {σ : Hp} {news : Led} {φ : List Addr} {x : V} {f : N} {fv : Value} {first : List Value} {s : Shared} {Q E : Value -> Shared -> Prop} (c : MethOf Z σ news φ x f fv first) (X : Z.K.In h₀) (Xs : Z.K.In s.heap) (hs : noStar es = true)
    (h : wpAny (model Z.prog Z.w) A (spliced (backTo cp (starEach es env))) (fun vs s₁ => Z.K.In s₁.heap /\ wpAny (model Z.prog Z.w) A (call fv (first ++ vs)) Q E s₁) E s) :
    wpAny (model Z.prog Z.w) A (callWith cp fv first (backTo cp (starEach es env)) []) Q E s := by
  have ref : ∀ {a : Addr}, fv = .ref a -> keepIn Z.K (.ref a) = true -> wpAny (model Z.prog Z.w) A (callWith cp fv first (backTo cp (starEach es env)) []) Q E s := fun {a} ea k => by
    subst ea
    cases es with
    | nil =>
      refine callWith_K0 Xs k ?_
      have h' := h
      intro Γ p hΓ
      have hh := h' Γ p hΓ
      have e : spliced (backTo cp (starEach [] env)) = pure [] := rfl
      rw [e, Sem.wp_pure'] at hh
      exact hh.2 Γ p hΓ
    | cons e r =>
      obtain ⟨h1, h2⟩ := noStar_cons hs
      exact callWith_K X k h (starEach_ok h1) (noStar_any h2)
  have bi : ∀ {i : String}, fv = .builtin i -> wpAny (model Z.prog Z.w) A (callWith cp fv first (backTo cp (starEach es env)) []) Q E s := fun {i} ea => by
    subst ea
    cases es with
    | nil =>
      refine callWith_method0 ?_
      intro Γ p hΓ
      have hh := h Γ p hΓ
      have e : spliced (backTo cp (starEach [] env)) = pure [] := rfl
      rw [e, Sem.wp_pure'] at hh
      have := hh.2 Γ p hΓ
      rwa [List.append_nil] at this
    | cons e r =>
      obtain ⟨h1, h2⟩ := noStar_cons hs
      exact callWith_method1 (wpAny_mono h (fun vs s₁ hh => hh.2) fun _ _ x => x) (starEach_ok h1) (noStar_any h2)
  cases c with
  | row _ _ _ _ _ k => exact ref rfl k
  | inst _ _ _ _ k _ => exact ref rfl k
  | append _ _ => exact bi rfl
  | dget _ _ => exact bi rfl
  | sget _ _ => exact bi rfl
theorem MethOf.mono {σ : Hp} {news news₂ : Led} {φ φ₂ : List Addr} {x : V} {f : N} {fv : Value} {first : List Value} (ex : Ext Z.H news φ news₂ φ₂) (c : MethOf Z σ news φ x f fv first) (σ' : Hp) : MethOf Z σ' news₂ φ₂ x f fv first := by
  cases c with
  | row a b r d e f => exact .row a b (r.mono ex) d e f
  | inst a b c r e f => exact .inst a b c (r.mono ex) e f
  | append a r => exact .append a (r.mono ex)
  | dget a r => exact .dget a (r.mono ex)
  | sget a r => exact .sget a (r.mono ex)
theorem call_method {prog : Program} {w : World} {A : Around} {E : Value -> Shared -> Prop} {s : Shared} {env : PySem.Env} {o : PySem.Expr} {name : Str} {apos pos : Pos} {args : List PySem.Expr} {Q : Value -> Shared -> Prop} (hb : baseOk o = true) (hs : noStar args = true) (hl : args.length < 29) (hp : apos.endLine = pos.line)
    (h : ∀ pl, wpAny (model prog w) A (eval o env) (fun ov s₁ => wpAny (model prog w) A (getMethod ov name pl) (fun fx s₂ => wpAny (model prog w) A (callWith pos fx.1 fx.2 (backTo pos (starEach args env)) []) Q E s₂) E s₁) E s) :
    wpAny (model prog w) A (eval (.Call (.Attribute o name apos) args [] pos) env) Q E s := by
  have few : methodCallForm (args.length + ([] : List Keyword).length) (backTo pos (starEach args env)) (backToKw pos (keywordEach [] env)) = true := by
    unfold methodCallForm
    have h1 : (backTo pos (starEach args env)).all (fun x => !x.1) = true := by
      have := noStar_any (env := env) (pos := pos) hs
      rw [List.all_eq_true]
      rw [List.any_eq_false] at this
      intro x hx
      simpa using this x hx
    rw [h1]
    have h2 : (backToKw pos (keywordEach [] env)) = [] := rfl
    rw [h2]
    simp
    omega
  have he : eval (.Call (.Attribute o name apos) args [] pos) env = (do
      let ov <- eval o env
      standAt apos.atName
      let (f, first) <- holding [ov] (getMethod ov name (do return (<- importBound o env).getD true))
      callWith pos f first (backTo pos (starEach args env)) []) := by
    rw [arm_eval_Call, attributeBase_ok hb]
    unfold methodCall calleeOf methodCallPos
    rw [few]
    simp only [if_true, Bool.not_true, Bool.false_or, hp, beq_self_eq_true]
    rfl
  exact MethodCall_ (h _) he
theorem name_at {A : Around} {env top : PySem.Env} {outer : List PySem.Env} {h₀ : Heap} {L : Addr} {sc : List (Str × NameKind)} {k : Nat} {ρ : Mine.Env} {x : Str} {np : Pos} {v : V} {σ : Hp} {h : Heap} {m : Str -> Option Value} {news : Led} {φ : List Addr} {tk : Nat} {Q E : Value -> Shared -> Prop}
    (C : CxZ Z A env top outer h₀ L sc k) (S : SimZ Z h₀ L m h news φ σ) (O : LO Z env L news φ m ρ) (hv : look ρ.ks ρ.vs x.cps.toList = some v) (hq : ∀ u, VRZ Z news φ u v -> Q u ⟨h, Z.g, Z.d, tk, Z.os⟩) :
    wpAny (model Z.prog Z.w) A (eval (.Name x np) env) Q E ⟨h, Z.g, Z.d, tk, Z.os⟩ := by
  obtain ⟨hd, k⟩ := O.at_ x v hv
  cases k with
  | loc a b c r => exact wpAny_Name (wpAny_loadName_local C.env_.kind a (by rw [b]; exact S.F.ns) c (hq _ r)) hd
  | own a b c d r =>
    obtain ⟨fa, ca, x1, y1, tx, ty, n1, vs1, is1, n2, e1, e2, mp, _⟩ := S.fd
    exact wpAny_Name (wpAny_loadName_local C.env_.kind a (c.ns (S.N.get (mp _ b))) d (hq _ r)) hd
  | cel a b c d o g r =>
    rcases a with a | a
    · exact wpAny_Name (wpAny_loadName_cell C.env_.kind a c ⟨_, S.N.get d, g⟩ (hq _ r)) hd
    · exact wpAny_Name (wpAny_loadName_free C.env_.kind a c ⟨_, S.N.get d, g⟩ (hq _ r) b) hd
end
end Mine
end

section
open PySem PySem.W PyProof.Rows
namespace Mine
section
variable {CA : ClsAt} {FX : Fix} {H : List Addr} {h₀ h h' : Heap} {L : Addr} {m m' : Str -> Option Value} {news news' : Led} {φ φ' : List Addr} {σ : Hp}
set_option tactic.hygienic false
theorem Sim.drop (S : Sim CA FX H h₀ L m h news φ σ) : Sim CA FX H h₀ L m h news [] [] :=
  ⟨S.F, S.N, S.nd, List.nodup_nil, rfl, fun _ q => (nomatch q), fun i o e => by simp at e, S.fd⟩
theorem Ext.drop (e : Ext H news [] news' φ') : Ext H news [] news' [] := ⟨⟨[], rfl⟩, fun p hp h1 h2 => ⟨(e.keep p hp h1 h2).1, h1⟩⟩
theorem Sim.turn {g₀ : Heap} {L' : Addr} (S : Sim CA FX H h₀ L m h news φ σ) (F : Fr g₀ L' h' m') (N : News g₀ L' h' news) : Sim CA FX H g₀ L' m' h' news φ σ := ⟨F, N, S.nd, S.φn, S.φl, S.φH, S.ob, S.fd⟩
theorem zip_look {xs : List V} : ∀ {pn : List Str} {ws : List Value}, pn.Nodup -> VRs CA FX news φ H ws xs -> ∀ (x : Str) (v : V), look (pn.map fun y => y.cps.toList) xs x.cps.toList = some v -> ∃ w, (pn.zip ws).lookup x = some w /\ VR CA FX news φ H w v := by
  intro pn ws nd r
  induction pn generalizing ws xs with
  | nil => intro x v e; simp [look] at e
  | cons y pn ih =>
    intro x v e
    cases r with
    | nil => simp [look] at e
    | @cons w ws u l rv rs =>
      simp only [List.map_cons, look] at e
      rw [List.nodup_cons] at nd
      have hb : (x == y) = leq y.cps.toList x.cps.toList := by
        rw [leq_str, Bool.eq_iff_iff, leq_iff, leq_iff]; exact eq_comm
      rw [List.zip_cons_cons, List.lookup_cons, hb]
      cases hq : leq y.cps.toList x.cps.toList with
      | true => rw [hq] at e; cases e; exact ⟨w, rfl, rv⟩
      | false => rw [hq] at e; exact ih nd.2 rs x v e
theorem lookup_rev : ∀ {l : List (Str × Value)}, (l.map (·.1)).Nodup -> ∀ x : Str, l.reverse.lookup x = l.lookup x
  | [], _, _ => rfl
  | (y, v) :: r, nd, x => by
    rw [List.map_cons, List.nodup_cons] at nd
    have ih := lookup_rev nd.2 x
    rw [List.reverse_cons, List.lookup_append, ih, List.lookup_cons]
    by_cases hx : (x == y) = true
    · have : r.lookup x = none := by
        rw [List.lookup_eq_none_iff]
        intro p hp
        rw [bne_iff_ne]
        intro e
        have hxy : x = y := by simpa using hx
        exact nd.1 (List.mem_map.mpr ⟨p, hp, by rw [<- e, hxy]⟩)
      rw [this, hx]
      simp [List.lookup_cons, hx]
    · have hx' : (x == y) = false := by simpa using hx
      rw [hx']
      simp [List.lookup_cons, hx']
end
set_option tactic.hygienic true
theorem bindA_cases : ∀ {ps : List N} {l d bs : List V}, bindA ps l d = some bs -> (bs = l /\ l.length = ps.length) \/ ∃ dv ds, d = dv :: ds /\ bs = l ++ [dv] /\ l.length + 1 = ps.length
  | [], [], d, bs, h => by simp only [bindA, Option.some.injEq] at h; subst h; exact .inl ⟨rfl, rfl⟩
  | [], _ :: _, d, bs, h => by simp [bindA] at h
  | p :: ps, a :: as, d, bs, h => by
    simp only [bindA] at h
    split at h
    · rename_i r hr
      cases h
      rcases bindA_cases hr with ⟨rfl, e⟩ | ⟨dv, ds, rfl, rfl, e⟩
      · exact .inl ⟨rfl, by simp [e]⟩
      · exact .inr ⟨dv, ds, rfl, rfl, by simp; omega⟩
    · cases h
  | p :: ps, [], [], bs, h => by simp [bindA] at h
  | p :: ps, [], d :: ds, bs, h => by
    simp only [bindA] at h
    split at h
    · cases h; exact .inr ⟨d, ds, rfl, rfl, rfl⟩
    · cases h
section
variable {Z : Wd} {n : Nat}
theorem okD (ih : OK Z n) : SD Z (n + 1) := by
  intro A env top outer h₀ L sc fn fa vs xs σ P X h m news φ tk Q E FO C S rv hw hK hX
  obtain ⟨A₀, B⟩ := C.below
  obtain ⟨mean, mg, mb, T⟩ := C.T
  obtain ⟨name, qual, params, scope, dV, kV, doc, pm, an, cdv, ct, oc, od, osl, pn, h1, h2, h3, h4, h5, h6, h7, h8, h9, h10, h11, h12⟩ := FO
  unfold evD at hw
  split at hw
  · rename_i bs hb
    obtain ⟨ws, hbind, rws, hwl⟩ : ∃ ws, BindsTo ⟨h, Z.g, Z.d, tk, Z.os⟩ (PySem.W.fnOf name qual params fn.body scope dV kV doc pm an cdv ct) ⟨vs, []⟩ (pn.zip ws) /\ VRsZ Z news φ ws bs /\ bs.length = pn.length := by
      have hpl : fn.params.length = pn.length := by rw [<- h8]; simp
      rcases bindA_cases hb with ⟨rfl, e⟩ | ⟨dv, ds, hd, rfl, e⟩
      · exact ⟨vs, h11 _ _ (C.X.keeps S.F.keep) (by rw [rv.length]; omega), rv, by omega⟩
      · obtain ⟨wv, hwv, hbt⟩ := h12 dv ds hd
        exact ⟨vs ++ [wv], hbt _ _ (C.X.keeps S.F.keep) (by rw [rv.length]; omega), rv.append (.cons (hwv _ _ _ _) .nil), by rw [List.length_append, List.length_singleton]; omega⟩
    have hzip : ((pn.zip ws).map (·.1)) = pn := by
      rw [List.map_fst_zip]
      rw [rws.length, hwl]; exact Nat.le_refl _
    refine code_def (s := ⟨h, Z.g, Z.d, tk, Z.os⟩) B S.F C.X S.N T C.fr C.tf C.tk h1 h2 (by have := C.dep; omega) hbind (fun y hy => ?_) (fun g' L' h₁ FG F' N' B' X' T' => ?_) h4 h5 h6 h7
    · have : y.1 ∈ pn := by rw [<- hzip]; exact List.mem_map.mpr ⟨y, hy, rfl⟩
      exact (isLoc_iff (h9 _ this)).1
    · have C1 : CxZ Z (A.deeper (envOf qual scope L' fa cdv)) (envOf qual scope L' fa cdv) (envOf qual scope L' fa cdv) (top :: outer) g' L' fn.sc n :=
        ⟨envX_good (cl := []) h6 h3, rfl, h6, ⟨A, B'⟩, Around.frames_deeper C.fr, X', ⟨mean, mg, mb, T'⟩, C.hd, by have := C.dep; show A.depth + 1 + n < _; omega, by have := C.un; show A.units + 3 + 4 * n + 100 < _; omega,
          fun p hp => ⟨(C.fz p hp).1, let ⟨sl, q⟩ := (C.fz p hp).2; ⟨sl, FG.keep _ _ q⟩⟩⟩
      have hls : fn.params.length = bs.length := by rw [<- h8]; simp [hwl]
      refine ih.ss fn.body ⟨fn.nm, fn.sc, fn.params, bs⟩ σ _ X ⟨rfl, rfl⟩ C1 (S.turn F' N') ⟨fun x v e => ?_, hls⟩ hw (fun fl ρ' σ' p f h' tk' m' news' φ' rf S' E' O' _ => ?_) (fun vs' σ' x e s' z => ?_) PassesOwn.leaving
      · have e' : look (pn.map fun y => y.cps.toList) bs x.cps.toList = some v := by rw [h8]; exact e
        obtain ⟨w, q1, q2⟩ := zip_look h10 rws x v e'
        have hin : ∃ y ∈ pn, y.cps.toList = x.cps.toList := by
          have := look_key e'
          obtain ⟨y, hy, ee⟩ := List.mem_map.mp this
          exact ⟨y, hy, ee⟩
        obtain ⟨y, hy, ee⟩ := hin
        have hyx : y = x := str_ext ee
        subst hyx
        have hl := C1.env_.locOk (x := y) (by rw [<- h3]; exact h9 y hy)
        exact ⟨hl.2, .loc hl.1 rfl (by rw [lookup_rev (by rw [hzip]; exact h10)]; exact q1) q2⟩
      · have fin : ∀ {v : Value} {x : V}, P x σ' -> VRZ Z news' φ' v x -> LeaveK h₀ L m g' (fun r s' => match r with | .ok (.ret v) => Q v s' | .ok _ => False | .error e => E e s') v ⟨h', Z.g, Z.d, tk', Z.os⟩ := fun {v x} px rx =>
          leaveK_ (s' := ⟨h', Z.g, Z.d, tk', Z.os⟩) S'.F S'.N fun F2 N2 => hK _ _ px _ _ _ _ _ (S'.turn F2 N2) E' rx
        cases rf with
        | next => exact fin p .none
        | ret r => exact fin p r
        | brk => exact p.elim
        | cont => exact p.elim
      · exact RZ.leave (Around.frames_deeper C.fr) rfl z fun s'' z' => hX _ _ x _ _ z'
  · exact hw.elim
end
end Mine
end

section
open PySem PySem.W PyProof.Rows
namespace Mine
set_option tactic.hygienic false
theorem le_ex {k n : Nat} (h : Nat.ble k n = true) : ∃ j, n = j + k := ⟨n - k, (Nat.sub_add_cancel (Nat.le_of_ble_eq_true h)).symm⟩
section
variable {T : Tab} {n : Nat} {f : N} {vs : List V} {σ : Hp} {Q : V -> Hp -> Prop} {X : List V -> Hp -> Prop}
theorem evF_fn {fn : Fn} (h1 : find T.fns f = some fn) (h : evF T (n + 1) f vs σ Q X) : evD T n fn vs σ (fun v σ' => handBack σ σ' v Q) X := by
  have h := sel_s h1 h
  exact h
theorem evF_pick (h1 : find T.fns f = none) (h2 : leq f n_pick = true) (h : evF T (n + 1) f vs σ Q X) : ∃ m : Nat, vs = [.feed, .int (.ofNat (m + 1))] /\ m <= 4096 /\ ∀ k : Nat, k < m + 1 -> Q (.int (.ofNat k)) σ := by
  have h := sel_n h1 h
  have h := sel_t h2 h
  obtain ⟨p, e, h⟩ := oP_e h
  obtain ⟨e1, h⟩ := ifB_e h
  obtain ⟨k, e2, h⟩ := oP_e h
  obtain ⟨m, rfl, h⟩ := succP_e h
  exact ⟨m, by rw [twoV_e e, isFeed_e e1, natV_e e2], ifB_ble h⟩
theorem evF_sorted (h1 : find T.fns f = none) (h2 : leq f n_pick = false) (h3 : leq f n_sorted = true) (h : evF T (n + 1) f vs σ Q X) : ∃ v l ss, vs = [v] /\ items σ v = some l /\ strsOf l = some ss /\ l.length < 64 /\ ∀ ss' : List N, ss'.Perm ss -> ss'.Pairwise (fun a b => ltN b a = false) -> Q (.vls (ss'.map .str)) σ := by
  have h := sel_n h1 h
  have h := sel_f h2 h
  have h := sel_t h3 h
  obtain ⟨v, e1, h⟩ := oP_e h
  obtain ⟨l, e2, h⟩ := oP_e h
  obtain ⟨ss, e3, h⟩ := oP_e h
  exact ⟨v, l, ss, oneV_e e1, e2, e3, h⟩
theorem evF_prim (h1 : find T.fns f = none) (h2 : leq f n_pick = false) (h3 : leq f n_sorted = false) (h4 : isPrim f = true) (h : evF T (n + 1) f vs σ Q X) : ∃ y, primF σ f vs = some y /\ Q y σ :=
  by
  have h := sel_n h1 h
  have h := sel_f h2 h
  have h := sel_f h3 h
  exact oP_e (sel_t h4 h)
theorem to4 (h1 : find T.fns f = none) (h2 : leq f n_pick = false) (h3 : leq f n_sorted = false) (h4 : isPrim f = false) (h : evF T (n + 1) f vs σ Q X) : selO (find T.simple f) (fun ks => ifB (Nat.beq ks.length vs.length) (ifB (Nat.ble 4 n) (Q (.ins f ks vs) σ)))
    (selO (find T.cls f) (fun ms => oP (fun fn => selB (leq f n_TokenRow) (fRow n f vs σ Q)
      (evD T n fn (.obj f σ.length :: vs) (σ ++ [.inst [] []]) (noneK fun σ' => Q (.obj f σ.length) σ') (fun _ _ => False))) (find ms n_init))
    (oP (fun t => ifB (Nat.ble 300 n) (nilP σ (t vs (fun v => Q v [])))) (find T.orcs f))) :=
  by
  have h := sel_n h1 h
  have h := sel_f h2 h
  have h := sel_f h3 h
  exact sel_f h4 h
theorem evF_simple {ks : List N} (h1 : find T.fns f = none) (h2 : leq f n_pick = false) (h3 : leq f n_sorted = false) (h4 : isPrim f = false) (h5 : find T.simple f = some ks) (h : evF T (n + 1) f vs σ Q X) : ks.length = vs.length /\ (∃ k, n = k + 4) /\ Q (.ins f ks vs) σ := by
  have h := sel_s h5 (to4 h1 h2 h3 h4 h)
  obtain ⟨hb, h⟩ := ifB_e h
  obtain ⟨hn, h⟩ := ifB_e h
  exact ⟨Nat.eq_of_beq_eq_true hb, le_ex hn, h⟩
theorem evF_row {ms : List (N × Fn)} (h1 : find T.fns f = none) (h2 : leq f n_pick = false) (h3 : leq f n_sorted = false) (h4 : isPrim f = false) (h5 : find T.simple f = none) (h6 : find T.cls f = some ms) (h7 : leq f n_TokenRow = true) (h : evF T (n + 1) f vs σ Q X) : ∃ l, vs = [.vls l] /\ (∃ k, n = k + 4) /\ Q (.obj f σ.length) (σ ++ [.row [] l (.bool false)]) := by
  have h := sel_n h5 (to4 h1 h2 h3 h4 h)
  have h := sel_s h6 h
  obtain ⟨fn, q, h⟩ := oP_e h
  have h := sel_t h7 h
  obtain ⟨v, e1, h⟩ := oP_e h
  obtain ⟨l, e2, h⟩ := oP_e h
  obtain ⟨hn, h⟩ := ifB_e h
  exact ⟨l, by rw [oneV_e e1, vlsV_e e2], le_ex hn, h⟩
theorem evF_cls {ms : List (N × Fn)} (h1 : find T.fns f = none) (h2 : leq f n_pick = false) (h3 : leq f n_sorted = false) (h4 : isPrim f = false) (h5 : find T.simple f = none) (h6 : find T.cls f = some ms) (h7 : leq f n_TokenRow = false) (h : evF T (n + 1) f vs σ Q X) :
    ∃ fn, find ms n_init = some fn /\ evD T n fn (.obj f σ.length :: vs) (σ ++ [.inst [] []]) (noneK fun σ' => Q (.obj f σ.length) σ') (fun _ _ => False) := by
  have h := sel_n h5 (to4 h1 h2 h3 h4 h)
  have h := sel_s h6 h
  obtain ⟨fn, q, h⟩ := oP_e h
  exact ⟨fn, q, sel_f h7 h⟩
theorem evF_orc {t : List V -> (V -> Prop) -> Prop} (h1 : find T.fns f = none) (h2 : leq f n_pick = false) (h3 : leq f n_sorted = false) (h4 : isPrim f = false) (h5 : find T.simple f = none) (h6 : find T.cls f = none) (h7 : find T.orcs f = some t) (h : evF T (n + 1) f vs σ Q X) : (∃ k, n = k + 300) /\ σ = [] /\ t vs (fun v => Q v []) := by
  have h := sel_n h5 (to4 h1 h2 h3 h4 h)
  have h := sel_n h6 h
  obtain ⟨t', e, h⟩ := oP_e h
  obtain rfl := Option.some.inj (e.symm.trans h7)
  obtain ⟨hn, h⟩ := ifB_e h
  exact ⟨le_ex hn, nilP_e h⟩
theorem evM_row {C : N} {i : Nat} (a : leq C n_TokenRow = true) (b : leq f n_next_token = true) (h : evM T (n + 1) (.obj C i) f vs σ Q X) : (∃ k, n = k + 20) /\ vs = [] /\ ∃ pre rest pt, σ[i]? = some (.row pre rest pt) /\ nextL pre rest pt i σ Q := by
  obtain ⟨hn, h⟩ := ifB_e (ifB_e (sel_t a h)).2
  obtain ⟨rfl, h⟩ := nilP_e h
  obtain ⟨o, hs, h⟩ := oP_e h
  obtain ⟨pre, rest, pt, rfl, h⟩ := nextO_e h
  exact ⟨le_ex hn, rfl, pre, rest, pt, hs, h⟩
theorem evM_inst {C : N} {i : Nat} {ms : List (N × Fn)} {fn : Fn} (a : leq C n_TokenRow = false) (b : find T.cls C = some ms) (c : find ms f = some fn) (h : evM T (n + 1) (.obj C i) f vs σ Q X) : evD T n fn (.obj C i :: vs) σ Q X := by
  have h := sel_f a h
  obtain ⟨ks, q, h⟩ := oP_e h
  cases q2 : memN ks f with
  | true => exact (sel_t q2 h).elim
  | false =>
    have h := sel_f q2 h
    obtain ⟨ms', b', h⟩ := oP_e h
    obtain rfl := Option.some.inj (b'.symm.trans b)
    obtain ⟨fn', c', h⟩ := oP_e h
    obtain rfl := Option.some.inj (c'.symm.trans c)
    exact h
theorem evM_append {i : Nat} (a : leq f n_append = true) (h : evM T (n + 1) (.lst i) f vs σ Q X) : ∃ w l, vs = [w] /\ σ[i]? = some (.list l) /\ l.length < 4096 /\ Q .none (σ.set i (.list (l ++ [w]))) := by
  obtain ⟨w, e1, h⟩ := oP_e (ifB_e h).2
  obtain ⟨l, e2, h⟩ := oP_e h
  exact ⟨w, l, oneV_e e1, lstAt_e e2, ifB_blt h⟩
theorem evM_dget {l : List (N × N × N)} (a : leq f n_get = true) (h : evM T (n + 1) (.dct l) f vs σ Q X) : ∃ x y d, vs = [.tup [.str x, .str y], .str d] /\ getS (look3 l x y) (.str d) σ Q := by
  obtain ⟨p, e1, h⟩ := oP_e (ifB_e h).2
  obtain ⟨k, e2, h⟩ := oP_e h
  obtain ⟨q, e3, h⟩ := oP_e h
  obtain ⟨x, e4, h⟩ := oP_e h
  obtain ⟨y, e5, h⟩ := oP_e h
  obtain ⟨d, e6, h⟩ := oP_e h
  exact ⟨x, y, d, by rw [twoV_e e1, tupV_e e2, twoV_e e3, strV_e e4, strV_e e5, strV_e e6], h⟩
theorem evM_sget {ks : List N} {ws : List V} (a : leq f n_get = true) (h : evM T (n + 1) (.sdct ks ws) f vs σ Q X) : ∃ x d, vs = [.str x, .str d] /\ getO (look ks ws x) (.str d) σ Q := by
  obtain ⟨p, e1, h⟩ := oP_e (ifB_e h).2
  obtain ⟨x, e4, h⟩ := oP_e h
  obtain ⟨d, e6, h⟩ := oP_e h
  exact ⟨x, d, by rw [twoV_e e1, strV_e e4, strV_e e6], h⟩
end
end Mine
end

section
open PySem PySem.W PyProof.Rows
namespace Mine
set_option tactic.hygienic false
theorem prim_max {σ : Hp} {xs : List V} {y : V} (h : primF σ n_max xs = some y) : ∃ a b, xs = [.int a, .int b] /\ y = .int (if a < b then b else a) := maxF_e h
theorem prim_range {σ : Hp} {xs : List V} {y : V} (h : primF σ n_range xs = some y) : (∃ b, xs = [.int b] /\ y = .rng 0 b) \/ ∃ a b, xs = [.int a, .int b] /\ y = .rng a b := rngF_e h
theorem prim_list {σ : Hp} {xs : List V} {y : V} (h : primF σ n_list xs = some y) : ∃ v l, xs = [v] /\ items σ v = some l /\ y = .vls l := lstF_e h
section
variable {Z : Wd} {n : Nat}
theorem handBack_K {h₀ : Heap} {L : Addr} {m : Str -> Option Value} {news : Led} {φ : List Addr} {h : Heap} {σ : Hp} {P : V -> Hp -> Prop} {Q : Value -> Shared -> Prop} (S : SimZ Z h₀ L m h news φ σ) (hK : KE Z h₀ L m news φ P Q) : KE Z h₀ L m news φ (fun v σ' => handBack σ σ' v P) Q := by
  intro x σ' p v h' tk' news' φ' S' E' r'
  cases σ with
  | nil =>
    obtain rfl : φ = [] := List.length_eq_zero_iff.mp S.φl
    obtain ⟨w, hw, p⟩ := oP_e (F := fun w => ifB (isDb 8 w) (P w [])) p
    exact hK _ _ (ifB_isD p).2 _ _ _ _ _ S'.drop E'.drop (frz_VR S' 8 r' hw (ifB_isD p).1)
  | cons _ _ => exact hK _ _ p _ _ _ _ _ S' E' r'
theorem Cx.under {A : Around} {env top : PySem.Env} {outer : List PySem.Env} {h₀ : Heap} {L : Addr} {sc : List (Str × NameKind)} {C : Addr} {vs : List Value} (c : CxZ Z A env top outer h₀ L sc (n + 1)) : CxZ Z (A.under (.builtin "type.__call__" ⟨.ref C :: vs, []⟩)) env top outer h₀ L sc n :=
  ⟨c.env_, c.tf, c.tk, c.below, c.fr, c.X, c.T, c.hd, by have := c.dep; rw [depth_under_make]; omega, by have := c.un; rw [units_under_make]; omega, c.fz⟩
theorem okF (W : Wk Z) (ih : OK Z n) : SF Z (n + 1) := by
  intro A env top outer h₀ L sc f fv vs xs σ P X h m news φ tk Q E c C S rv hw hK hX
  have C' := C.down (Nat.le_succ n)
  cases c with
  | fn h1 h2 h3 h4 => exact wpAny_call (ih.d vs xs σ _ X h4 C' S rv (evF_fn h1 hw) (handBack_K S hK) hX)
  | pick h1 h2 h3 h4 =>
    replace hw := evF_pick h1 h2 hw
    obtain ⟨k, rfl, hk, hw⟩ := hw
    obtain ⟨_, _, rfl, r1, r2⟩ := rv.two_e
    obtain ⟨_, rfl⟩ := r2.int_e
    rw [leq_eq h2] at h3
    exact W.prims.pick h3 C S r1 hk fun i h' tk' news' t' hi S' E' => hK _ _ (hw i hi) _ _ _ _ _ S' E' (.int _ _)
  | sorted h1 h2 h3 =>
    replace hw := evF_sorted h1 h2 h3 hw
    obtain ⟨v, l, ss, rfl, hl, hs, h64, hw⟩ := hw
    obtain ⟨_, rfl, r1⟩ := rv.one_e
    exact sorted_rule S r1 hl hs h64 hw hK
  | len h1 h2 h3 h4 =>
    replace hw := evF_prim h1 h2 h3 (by rw [leq_eq h4]; rfl) hw
    obtain ⟨y, hy, hw⟩ := hw
    rw [leq_eq h4] at hy
    obtain ⟨a, l, rfl, hl, rfl⟩ := lenF_e hy
    obtain ⟨_, rfl, r1⟩ := rv.one_e
    exact len_rule S r1 hl hw hK
  | max h1 h2 h3 h4 =>
    replace hw := evF_prim h1 h2 h3 (by rw [leq_eq h4]; rfl) hw
    obtain ⟨y, hy, hw⟩ := hw
    rw [leq_eq h4] at hy
    obtain ⟨a, b, rfl, rfl⟩ := prim_max hy
    obtain ⟨_, _, rfl, r1, r2⟩ := rv.two_e
    obtain ⟨_, rfl⟩ := r1.int_e
    obtain ⟨_, rfl⟩ := r2.int_e
    exact max_rule S C.hd hw hK
  | range h1 h2 h3 h4 =>
    replace hw := evF_prim h1 h2 h3 (by rw [leq_eq h4]; rfl) hw
    obtain ⟨y, hy, hw⟩ := hw
    rw [leq_eq h4] at hy
    rcases prim_range hy with ⟨b, rfl, rfl⟩ | ⟨a, b, rfl, rfl⟩
    · obtain ⟨_, rfl, r1⟩ := rv.one_e
      obtain ⟨_, rfl⟩ := r1.int_e
      exact range1_rule S hw hK
    · obtain ⟨_, _, rfl, r1, r2⟩ := rv.two_e
      obtain ⟨_, rfl⟩ := r1.int_e
      obtain ⟨_, rfl⟩ := r2.int_e
      exact range2_rule S hw hK
  | list h1 h2 h3 h4 =>
    replace hw := evF_prim h1 h2 h3 (by rw [leq_eq h4]; rfl) hw
    obtain ⟨y, hy, hw⟩ := hw
    rw [leq_eq h4] at hy
    obtain ⟨v, l, rfl, hl, rfl⟩ := prim_list hy
    obtain ⟨_, rfl, r1⟩ := rv.one_e
    exact list_rule S r1 hl hw hK
  | simple h1 h2 h3 h4 h5 h6 h7 h8 =>
    replace hw := evF_simple h1 h2 h3 h4 h5 hw
    obtain ⟨hb, ⟨k', rfl⟩, hw⟩ := hw
    exact W.prims.simple h5 h6 h8 hb C' S rv hw hK
  | row h1 h2 h3 h4 h5 h6 h7 h8 h9 h10 =>
    replace hw := evF_row h1 h2 h3 h4 h5 h6 h7 hw
    obtain ⟨l, rfl, ⟨k', rfl⟩, hw⟩ := hw
    obtain ⟨_, rfl, r1⟩ := rv.one_e
    rw [leq_eq h7] at h8 h10 hw
    exact W.prims.row h8 h10 C' S r1 hw hK
  | @cls ms Cc h1 h2 h3 h4 h5 h6 h7 h8 h9 h10 h11 h12 =>
    replace hw := evF_cls h1 h2 h3 h4 h5 h6 h7 hw
    obtain ⟨fn, hfn, hw⟩ := hw
    obtain ⟨fa, g1, g2, g3, g4⟩ := h12 _ _ hfn
    have ii : findIn Z.K (.ref Cc) "__init__" = some (some (.ref fa)) := g1
    refine call_cls (s := ⟨h, Z.g, Z.d, tk, Z.os⟩) S.F C.X S.N h11 ii g2 fun x dx h' F' N' l1 l2 => ?_
    have Nd : News h₀ L h' ((dx, dictOf [] 0) :: news) := fun p hp => N' p (.tail _ hp)
    obtain ⟨S1, E1⟩ := S.pushM (o := dictOf [] 0) (ao := .inst [] []) l1 F' Nd (.inst (.head _) .nil)
    have l3 : ∀ p ∈ (dx, dictOf [] 0) :: news, p.1 < x := fun p hp => by
      rcases List.mem_cons.mp hp with rfl | hp
      · exact l2
      · exact Nat.lt_trans (l1 p hp) l2
    obtain ⟨S2, E2⟩ := S1.push l3 F' N'
    have ro : VRZ Z ((x, instObj Cc dx) :: (dx, dictOf [] 0) :: news) (φ ++ [dx]) (.ref x) (.obj f σ.length) :=
      .obj h10 (.head _) (off_new S1 l3) (by rw [<- S.φl]; simp)
    refine codeAny_mono (ih.d (.ref x :: vs) (.obj f σ.length :: xs) _ _ _ (Q := fun v s' => v = .none /\ Q (.ref x) s') (E := fun _ _ => False) g4 C.under S2 (.cons ro (rv.mono (E1.trans E2))) hw (fun y σ' p v h'' tk' news' φ' S' E' r' => ?_) (fun _ _ q => q.elim)) fun r s' z => ?_
    · obtain ⟨rfl, p⟩ := noneK_e p
      exact ⟨r'.none_e, hK _ _ p _ _ _ _ _ S' ((E1.trans E2).trans E') (ro.mono E')⟩
    · rcases r with e | (v | _ | _ | _) <;> first | exact z | exact z.elim
  | orc h1 h2 h3 h4 h5 h6 h7 h8 h9 =>
    replace hw := evF_orc h1 h2 h3 h4 h5 h6 h7 hw
    obtain ⟨⟨k', rfl⟩, rfl, hw⟩ := hw
    exact W.prims.orc h7 h8 C' S rv hw hK
theorem okM (W : Wk Z) (ih : OK Z n) : SM Z (n + 1) := by
  intro A env top outer h₀ L sc f x fv first vs xs σ P X h m news φ tk Q E c C S rv hw hK hX
  have C' := C.down (Nat.le_succ n)
  cases c with
  | row a b r1 d e k =>
    replace hw := evM_row a b hw
    obtain ⟨⟨k', rfl⟩, rfl, hw⟩ := hw
    obtain rfl := rv.nil_e
    rw [leq_eq a] at r1 d
    rw [leq_eq b] at e
    obtain ⟨pre, rest, pt, hs, hw⟩ := hw
    exact W.prims.next d e C' S r1 hs hw hK
  | inst a b c r1 k fo => exact wpAny_call (ih.d _ _ σ P X fo C' S (.cons r1 rv) (evM_inst a b c hw) hK hX)
  | append a r1 =>
    replace hw := evM_append a hw
    obtain ⟨w, l, rfl, hs, hl, hw⟩ := hw
    obtain ⟨_, rfl, r2⟩ := rv.one_e
    obtain ⟨_, rfl, hi⟩ := r1.lst_e
    exact append_rule S hi hs r2 hl hw hK
  | dget a r1 =>
    replace hw := evM_dget a hw
    obtain ⟨x', y', d', rfl, hw⟩ := hw
    obtain ⟨_, _, rfl, r2, r3⟩ := rv.two_e
    obtain ⟨dv, t, rfl, e, ok⟩ := r3.str_e
    have hu : A.units + 1 < cLine := by have := C.un; omega
    obtain ⟨_, _, _, rfl, mm, o, rr, z⟩ := r2.tup_e
    obtain ⟨_, _, rfl, hn, ft⟩ := r1.dct_e
    exact dget_rule S hu (.dct hn ft) (.tup mm o rr z) e ok hw hK
  | sget a r1 =>
    replace hw := evM_sget a hw
    obtain ⟨x', d', rfl, hw⟩ := hw
    obtain ⟨_, _, rfl, r2, r3⟩ := rv.two_e
    obtain ⟨s', t, rfl, e, ok⟩ := r2.str_e
    subst e
    obtain ⟨dv, td, rfl, ed, okd⟩ := r3.str_e
    subst ed
    obtain ⟨_, _, rfl, mm, o, ft, sm⟩ := r1.sdct_e
    exact sget_rule S (.sdct mm o ft sm) (.str dv td _ rfl okd) (PyProof.V.Flat.str _ _) (by rw [flatD, mk_str rfl]) (fun s e => by cases e; exact okd) hw hK
end
end Mine
end

section
open PySem PySem.W PyProof.Rows
namespace Mine
section
variable {prog : Program} {w : World} {A : Around} {E : Value -> Shared -> Prop} {s : Shared} {env : PySem.Env}
set_option tactic.hygienic false
theorem forTurns {R : Result -> Shared -> Prop} {target : PySem.Expr} {it : Value} {body orelse : List Stmt} (I : Nat -> Shared -> Prop)
    (turn : ∀ n s, I n s -> wpAny (model prog w) A (pyNext it) (fun r s₁ => match r with
      | none => wpAny (model prog w) A (execs orelse env) (fun f s₃ => R (.ok f) s₃) (notedBy (model prog w) A env fun e s' => R (.error e) s') s₁
      | some v => wpAny (model prog w) A (letOwnedTupleGo target it v) (fun _ s₂ => wpAny (model prog w) A (assign target env v) (fun _ s₂ => wpAny (model prog w) A (execs body env) (fun f s₃ => match f with
          | .next | .cont => ∃ m, m < n /\ I m s₃
          | .brk => R (.ok .next) s₃
          | .ret v => R (.ok (.ret v)) s₃) (notedBy (model prog w) A env fun e s' => R (.error e) s') s₂) (notedBy (model prog w) A env fun e s' => R (.error e) s') s₂) (notedBy (model prog w) A env fun e s' => R (.error e) s') s₁) (notedBy (model prog w) A env fun e s' => R (.error e) s') s)
    (n : Nat) (h : I n s) : codeAny (model prog w) A (.forLoop target it body orelse env) R s := by
  refine codeAny_loop' rfl I (fun n s hI => ?_) n h
  show wpAny _ _ ((forTurn target it body orelse env).onRaise (fun x => do noteFrame x env; theTreesLotGoes x)) _ _ s
  refine wpAny_noted ?_
  simp only [forTurn]
  refine wpAny_bind (wpAny_standAt (wpAny_bind (wpAny_onRaise (wpAny_mono (turn n s hI) (fun r s₁ h₁ => ?_) fun _ _ h' => wpAny_standAt h'))))
  cases r with
  | none => exact wpAny_pure (.inr ⟨rfl, codeAny_block h₁⟩)
  | some v =>
    refine wpAny_bind (wpAny_mono h₁ (fun _ s₂ h₂ => ?_) fun _ _ h' => h')
    refine wpAny_bind (wpAny_mono h₂ (fun _ s₃ h₃ => wpAny_bind (wpAny_mono h₃ (fun f s₄ h₄ => ?_) fun _ _ h' => h')) fun _ _ h' => h')
    cases f with
    | next => exact wpAny_pure (.inl ⟨rfl, h₄⟩)
    | cont => exact wpAny_pure (.inl ⟨rfl, h₄⟩)
    | brk => exact wpAny_pure h₄
    | ret v => exact wpAny_pure h₄
theorem listEnd {it l : Addr} {i : Nat} {items : Array Value} {Q : Option Value -> Shared -> Prop} (hh : A.handled = none)
    (hit : s.heap.IsListIter it l i) (hl : s.heap.IsList l items) (hx : items[i]? = none)
    (hQ : ∀ h' o', Heap.ExtBut it s.heap h' -> h'.get? it = some o' -> Q none { s with heap := h' }) : wpAny (model prog w) A (pyNext (.ref it)) Q E s := by
  obtain ⟨o, ho, hc, hd⟩ := id hit
  obtain ⟨ol, hol, _, nl, hdl⟩ := hl
  unfold pyNext
  refine wpAny_bind (wpAny_attempt (wpAny_callSpecial?_slot (name := Str.ofString "__next__") hit.typeIs slot_listiter_next
    (wpAny_call_entry slot_listiter_next hit.typeIs entry_listiter_next ?_ (args_listiter_next _))))
  show wpAny _ _ (field (.ref it) 0 >>= _) _ _ s
  refine wpAny_bind (wpAny_field ho hd (x := .ref l) rfl ?_)
  show wpAny _ _ (if (Value.ref l == Value.none) = true then _ else _) _ _ s
  rw [if_neg (show ¬ ((Value.ref l == Value.none) = true) from Bool.false_ne_true)]
  show wpAny _ _ (field (.ref it) 1 >>= _) _ _ s
  refine wpAny_bind (wpAny_field ho hd (x := .int i 0) rfl ?_)
  show wpAny _ _ (seqItems? (.ref l) >>= _) _ _ s
  refine wpAny_bind (wpAny_seqItems hol hdl ?_)
  simp only [Int.toNat_natCast, hx]
  refine wpAny_bind (wpAny_rule (wpAny_bind (wpAny_setField ho hd (by simp) ?_)))
  show wpAny _ _ (newExc (.type "StopIteration") [] >>= _) _ _ _
  refine wpAny_bind ?_
  simp only [newExc, newTuple]
  refine wpAny_bind (wpAny_newObj_type ?_ (by size_fits))
  refine wpAny_bind (m := firstArgMember _ _) (wpAny_of_eq (a := Value.none) (by first | rfl | (simp only [firstArgMember]; rfl)) ?_)
  refine wpAny_newObj_type ?_ (by size_fits)
  simp only [raiseNew]
  refine wpAny_bind (wpAny_handled ?_)
  rw [show A.in1.handled = none from hh]
  refine wpAny_bind (wpAny_pure (wpAny_throw ?_))
  refine wpAny_bind (wpAny_isInstance (T := "StopIteration") (b := true) ⟨_, Heap.get?_push_size _ rfl, rfl⟩ isSubtype_stop ?_)
  refine wpAny_pure (hQ _ _ (((Heap.SameBut.update ..).extBut.push _).push _) (Heap.get?_push_of_some _ (Heap.get?_push_of_some _ (Heap.get?_update_self _ ho (Obj.isFreed_of_fields (Obj.data_mapFields hd _))))))
end
end Mine
end

section
open PySem PySem.W PyProof.Rows
namespace Mine
noncomputable def notIt (o : Obj) : Prop := ¬ ((o.cls = .type "list_iterator" \/ o.cls = .type "range_iterator") /\ ∃ vs, o.data = .fields vs)
set_option tactic.hygienic false
theorem notIt_type {o : Obj} {n : String} (hc : o.cls = .type n) (h1 : n ≠ "list_iterator") (h2 : n ≠ "range_iterator") : notIt o := by
  rintro ⟨e | e, _⟩ <;> rw [hc] at e <;> injection e with e <;> first | exact h1 e | exact h2 e
theorem notIt_ref {o : Obj} {a : Addr} (hc : o.cls = .ref a) : notIt o := by
  rintro ⟨e | e, _⟩ <;> rw [hc] at e <;> cases e
theorem notIt_cell {o : Obj} {v : Option Value} (hd : o.data = .cell v) : notIt o := by
  rintro ⟨_, vs, e⟩; rw [hd] at e; cases e
section
variable {prog : Program} {w : World} {pin : Led} {CA : ClsAt} {H : List Addr} {h₀ h h' : Heap} {L : Addr} {m m' : Str -> Option Value} {news news' : Led} {φ : List Addr} {σ : Hp}
theorem keep_re0 (hk : ∀ p ∈ news, notIt p.2 -> p ∈ news') : Re0 notIt (FX0 prog w pin) (FX0 prog w pin) news news' φ φ H H :=
  ⟨fun _ _ _ h => ⟨(by obtain ⟨kvs, D, ⟨es, ep, hc, _⟩, _⟩ := h; exact notIt_type hc.1 (by decide) (by decide)), h⟩, fun _ _ _ h => ⟨fun p hp => by rcases h.2.2 p hp with q | q <;> exact notIt_type q (by decide) (by decide), h⟩, fun _ _ h => h, fun p hp q h => ⟨hk p hp q, h⟩, fun _ h => h, fun _ _ => notIt_type, fun _ _ => notIt_ref⟩
theorem VR.keep (hk : ∀ p ∈ news, notIt p.2 -> p ∈ news') {v : Value} {x : V} (h : VR CA (FX0 prog w pin) news φ H v x) : VR CA (FX0 prog w pin) news' φ H v x := VR.re0 (keep_re0 hk) h
theorem VRs.keep (hk : ∀ p ∈ news, notIt p.2 -> p ∈ news') {vs : List Value} {l : List V} (h : VRs CA (FX0 prog w pin) news φ H vs l) : VRs CA (FX0 prog w pin) news' φ H vs l := VRs.re0 (keep_re0 hk) h
theorem VFs.keep (hk : ∀ p ∈ news, notIt p.2 -> p ∈ news') {es : List DictEntry} {ks : List N} {l : List V} (h : VFs CA (FX0 prog w pin) news φ H es ks l) : VFs CA (FX0 prog w pin) news' φ H es ks l := VFs.re0 (keep_re0 hk) h
theorem OR.keep (hk : ∀ p ∈ news, notIt p.2 -> p ∈ news') {a : Addr} {o : AObj} (h : OR CA (FX0 prog w pin) news φ H a o) : OR CA (FX0 prog w pin) news' φ H a o := by
  cases h with
  | list m r z => exact .list (hk _ m (notIt_type rfl (by decide) (by decide))) (r.keep hk) z
  | inst m r => exact .inst (hk _ m (notIt_type rfl (by decide) (by decide))) (r.keep hk)
  | row m r => exact .row (hk _ m (notIt_type rfl (by decide) (by decide))) (r.keep hk)
theorem swap_keep {I : Addr} {o o' : Obj} (nd : (news.map (·.1)).Nodup) (hm : (I, o) ∈ news) (hn : ¬ notIt o) : ∀ p ∈ news, notIt p.2 -> p ∈ updL I o' news := fun p hp q => by
  by_cases e : p.1 = I
  · exfalso
    have : p = (I, o) := by
      obtain ⟨i, hi, e1⟩ := List.mem_iff_getElem.mp hp
      obtain ⟨j, hj, e2⟩ := List.mem_iff_getElem.mp hm
      have hi' : (news.map (·.1))[i]? = some I := by rw [List.getElem?_map, List.getElem?_eq_getElem hi, e1]; simp [e]
      have hj' : (news.map (·.1))[j]? = some I := by rw [List.getElem?_map, List.getElem?_eq_getElem hj, e2]; rfl
      have := nodup_inj nd hi' hj'
      subst this
      rw [<- e1, e2]
    rw [this] at q
    exact hn q
  · exact updL_mem hp e
theorem Sim.swap (S : Sim CA (FX0 prog w pin) H h₀ L m h news φ σ) {I : Addr} {o o' : Obj} (hm : (I, o) ∈ news) (off : Off φ H I) (hn : ¬ notIt o) (hk : ∀ b ob, b ≠ I -> h.get? b = some ob -> h'.get? b = some ob) (ho : h'.get? I = some o') :
    Sim CA (FX0 prog w pin) H h₀ L m h' (updL I o' news) φ σ := by
  have kk := swap_keep (o' := o') S.nd hm hn
  have NI := S.N _ hm
  have F' : Fr h₀ L h' m := ⟨S.F.ns.at' fun ob e => hk _ ob (Ne.symm NI.2.1) e, fun b ob e => hk b ob (fun q => by have := NI.2.2; simp only at this; rw [<- q, e] at this; cases this) (S.F.keep b ob e), S.F.above⟩
  have N' : News h₀ L h' (updL I o' news) := fun p hp => by
    obtain ⟨q, hq, rfl⟩ := List.mem_map.mp hp
    by_cases e : q.1 = I
    · simp only [e, if_true]; exact ⟨ho, NI.2.1, NI.2.2⟩
    · simp only [e, if_false]; exact ⟨hk _ _ e (S.N q hq).1, (S.N q hq).2⟩
  exact ⟨F', N', by rw [updL_fst]; exact S.nd, S.φn, S.φl, S.φH, fun i ob e => let ⟨b, hb, r⟩ := S.ob i ob e; ⟨b, hb, r.keep kk⟩, S.fd.mono fun p hp q => updL_mem hp fun e => off.2 (e ▸ q)⟩
end
section
variable {Z : Wd} {n : Nat}
theorem NmAt.keep {env : PySem.Env} {L : Addr} {news news' : Led} {φ : List Addr} {m : Str -> Option Value} {x : Str} {v : V} (hk : ∀ p ∈ news, notIt p.2 -> p ∈ news') (h : NmAt Z env L news φ m x v) : NmAt Z env L news' φ m x v := by
  cases h with
  | loc a b c r => exact .loc a b c (r.keep hk)
  | own a b c d r => exact .own a b c d (r.keep hk)
  | cel a b c d o g r => exact .cel a b c (hk _ d (notIt_cell g)) o g (r.keep hk)
theorem LO.keep {env : PySem.Env} {L : Addr} {news news' : Led} {φ : List Addr} {m : Str -> Option Value} {ρ : Mine.Env} (hk : ∀ p ∈ news, notIt p.2 -> p ∈ news') (h : LO Z env L news φ m ρ) : LO Z env L news' φ m ρ :=
  ⟨fun x v e => ⟨(h.at_ x v e).1, (h.at_ x v e).2.keep hk⟩, h.len⟩
structure Turns (Z : Wd) (A : Around) (I : Addr) (N : Nat) (side : Heap -> Prop) (StO : Nat -> Obj -> Prop) (Pv : Nat -> Value -> Prop) : Prop where
  it : ∀ i o, StO i o -> ¬ notIt o
  item : ∀ {s : Shared} {Q : Option Value -> Shared -> Prop} {E : Value -> Shared -> Prop} (i : Nat) (o : Obj), i < N -> side s.heap -> s.heap.get? I = some o -> StO i o ->
    (∀ v h' tk o', Pv i v -> (∀ b ob, b ≠ I -> s.heap.get? b = some ob -> h'.get? b = some ob) -> h'.get? I = some o' -> StO (i + 1) o' -> Q (some v) { s with heap := h', toks := tk }) -> wpAny (model Z.prog Z.w) A (pyNext (.ref I)) Q E s
  done : ∀ {s : Shared} {Q : Option Value -> Shared -> Prop} {E : Value -> Shared -> Prop} (o : Obj), side s.heap -> s.heap.get? I = some o -> StO N o ->
    (∀ h' tk o', (∀ b ob, b ≠ I -> s.heap.get? b = some ob -> h'.get? b = some ob) -> h'.get? I = some o' -> Q none { s with heap := h', toks := tk }) -> wpAny (model Z.prog Z.w) A (pyNext (.ref I)) Q E s
  own : ∀ {s : Shared} {Q : Unit -> Shared -> Prop} {E : Value -> Shared -> Prop} (i j : Nat) (o : Obj) (t : PySem.Expr) (v : Value), Pv j v -> s.heap.get? I = some o -> StO i o -> Q () s -> wpAny (model Z.prog Z.w) A (letOwnedTupleGo t (.ref I) v) Q E s
theorem turns_list {A : Around} (hh : A.handled = none) (I ax : Addr) (items : Array Value) : Turns Z A I items.size (fun h => h.IsList ax items) (fun i o => o.cls = .type "list_iterator" /\ o.data = .fields #[.ref ax, .int i 0]) (fun i v => items[i]? = some v) where
  it := fun i o h q => q ⟨.inl h.1, _, h.2⟩
  item := fun {s Q E} i o hi hs ho st hq => by
    have hit : s.heap.IsListIter I ax i := ⟨o, ho, st.1, st.2⟩
    refine wpAny_pyNext_list_item hit hs (x := items[i]) (Array.getElem?_eq_getElem hi) fun h' hit' hsb => ?_
    obtain ⟨o', ho', hc', hd'⟩ := hit'
    exact hq _ h' s.toks o' (Array.getElem?_eq_getElem hi) (fun b ob hb e => (hsb.2 b hb).trans e) ho' ⟨hc', hd'⟩
  done := fun {s Q E} o hs ho st hq => listEnd hh ⟨o, ho, st.1, st.2⟩ hs (by simp) fun h' o' he ho' => hq h' s.toks o' (fun b ob hb e => he b ob hb e) ho'
  own := fun {s Q E} i j o t v _ ho st hq => by
    have gen : (∀ elts x p, t ≠ .Tuple elts x p) -> (∀ elts p, t ≠ .List elts p) -> letOwnedTupleGo t (.ref I) v = pure () := fun a b => by
      cases t <;> first | rfl | exact absurd rfl (a _ _ _) | exact absurd rfl (b _ _)
    cases t with
    | Tuple elts x p =>
      cases v with
      | ref T => exact wpAny_letOwnedTupleGo_listiter (i := i) ⟨o, ho, st.1, st.2⟩ hq
      | _ => exact wpAny_of_eq (a := ()) rfl hq
    | List elts p =>
      cases v with
      | ref T =>
        have := wpAny_letOwnedTupleGo_listiter (prog := Z.prog) (w := Z.w) (A := A) (E := E) (elts := elts) (x1 := 0) (pos := p) (T := T) (i := i) (Q := Q) ⟨o, ho, st.1, st.2⟩ hq
        exact this
      | _ => exact wpAny_of_eq (a := ()) rfl hq
    | _ => exact wpAny_of_eq (a := ()) (gen (fun _ _ _ e => by cases e) (fun _ _ e => by cases e)) hq
end
end Mine
end

section
open PySem PySem.W PyProof.Rows
namespace Mine
set_option tactic.hygienic false
theorem rangeEnd {prog : Program} {w : World} {A : Around} {E : Value -> Shared -> Prop} {s : Shared} {it : Addr} {x left step : Int} {Q : Option Value -> Shared -> Prop} (hh : A.handled = none) (hit : IsRangeIter s.heap it x left step) (hleft : left <= 0)
    (hQ : ∀ h' o', Heap.ExtBut it s.heap h' -> h'.get? it = some o' -> Q none { s with heap := h' }) : wpAny (model prog w) A (pyNext (.ref it)) Q E s := by
  have hT : s.TypeIs (.ref it) "range_iterator" := ⟨_, hit, rfl⟩
  unfold pyNext
  refine wpAny_bind (wpAny_attempt (wpAny_callSpecial?_slot (name := Str.ofString "__next__") hT PySem.F.slot_range_iterator_next
    (wpAny_call_entry PySem.F.slot_range_iterator_next hT PySem.F.entry_range_iterator_next ?_ (PySem.F.args_range_iterator_next_1 _))))
  show wpAny _ _ (field (.ref it) 0 >>= _) _ _ s
  refine wpAny_bind (wpAny_field hit rfl (x := rawInt x) rfl ?_)
  show wpAny _ _ (field (.ref it) 1 >>= _) _ _ s
  refine wpAny_bind (wpAny_field hit rfl (x := rawInt left) rfl ?_)
  show wpAny _ _ (field (.ref it) 2 >>= _) _ _ s
  refine wpAny_bind (wpAny_field hit rfl (x := rawInt step) rfl ?_)
  show wpAny _ _ (if left <= 0 then _ else _) _ _ s
  rw [if_pos hleft]
  refine wpAny_bind (wpAny_rule ?_)
  refine wpAny_bind ?_
  show wpAny _ _ (newExc (.type "StopIteration") [] >>= _) _ _ _
  refine wpAny_bind ?_
  simp only [newExc, newTuple]
  refine wpAny_bind (wpAny_newObj_type ?_ (by size_fits))
  refine wpAny_bind (m := firstArgMember _ _) (wpAny_of_eq (a := Value.none) (by first | rfl | (simp only [firstArgMember]; rfl)) ?_)
  refine wpAny_newObj_type ?_ (by size_fits)
  simp only [raiseNew]
  refine wpAny_bind (wpAny_handled ?_)
  rw [show A.in1.handled = none from hh]
  refine wpAny_bind (wpAny_pure (wpAny_throw ?_))
  refine wpAny_bind (wpAny_isInstance (T := "StopIteration") (b := true) ⟨_, Heap.get?_push_size _ rfl, rfl⟩ isSubtype_stop ?_)
  exact wpAny_pure (hQ _ _ (((Heap.ExtBut.refl it s.heap).push _).push _) (Heap.get?_push_of_some _ (Heap.get?_push_of_some _ hit)))
section
variable {Z : Wd} {n : Nat}
theorem turns_range {A : Around} (hh : A.handled = none) (I : Addr) (a : Int) (N : Nat) : Turns Z A I N (fun _ => True) (fun i o => o = { cls := .type "range_iterator", dict := none, data := .fields #[rawInt (a + (i : Nat) * 1), rawInt ((N : Int) - (i : Nat)), rawInt 1], slots := #[] }) (fun i v => ∃ t, v = .int (a + (i : Nat) * 1) t) where
  it := fun i o h q => by subst h; exact q ⟨.inr rfl, _, rfl⟩
  item := fun {s Q E} i o hi _ ho st hq => by
    subst st
    refine wpAny_pyNext_range_item ho (by omega) fun h' hit' hsb => ?_
    refine hq _ h' (s.toks + 1) _ ⟨s.toks, rfl⟩ (fun b ob hb e => (hsb.2 b hb).trans e) hit' ?_
    have e1 : a + ((i + 1 : Nat) : Int) * 1 = a + (i : Int) * 1 + 1 := by push_cast; omega
    have e2 : (N : Int) - ((i + 1 : Nat) : Int) = (N : Int) - (i : Int) - 1 := by push_cast; omega
    rw [e1, e2]
  done := fun {s Q E} o _ ho st hq => by
    subst st
    exact rangeEnd hh ho (by omega) fun h' o' he ho' => hq h' s.toks o' (fun b ob hb e => he b ob hb e) ho'
  own := fun {s Q E} i j o t v hv ho st hq => by
    obtain ⟨tk, rfl⟩ := hv
    exact wpAny_of_eq (a := ()) (by cases t <;> rfl) hq
theorem drop_cons {l : List V} {i : Nat} {x : V} (h : l[i]? = some x) : l.drop i = x :: l.drop (i + 1) := by
  obtain ⟨hi, e⟩ := List.getElem?_eq_some_iff.mp h
  rw [List.drop_eq_getElem_cons hi, e]
inductive InvF (Z : Wd) (n : Nat) (env : PySem.Env) (h₀ : Heap) (L : Addr) (ρ₀ : Mine.Env) (t : PySem.Expr) (b : List Stmt) (P : Fl -> Mine.Env -> Hp -> Prop) (X : List V -> Hp -> Prop) (news₀ : Led) (φ₀ : List Addr) (I : Addr) (l : List V) (StO : Nat -> Obj -> Prop) (k : Nat) (s : Shared) : Prop
  | mk (i : Nat) (h : Heap) (tk : Nat) (m : Str -> Option Value) (news : Led) (φ : List Addr) (σ : Hp) (ρ : Mine.Env) (o : Obj) : s = ⟨h, Z.g, Z.d, tk, Z.os⟩ -> k = l.length - i -> i <= l.length -> SimZ Z h₀ L m h news φ σ -> Ext Z.H news₀ φ₀ news φ -> LO Z env L news φ m ρ -> ρ.sc = ρ₀.sc -> (I, o) ∈ news -> Off φ Z.H I -> StO i o ->
    forL (fun v ρ' σ' Q' => evA Z.T n t v ρ' σ' (fun ρ₂ σ₂ => evSs Z.T n b ρ₂ σ₂ Q' X) X) P (l.drop i) ρ σ -> InvF Z n env h₀ L ρ₀ t b P X news₀ φ₀ I l StO k s
theorem for_sound (ih : OK Z n) {A : Around} {env top : PySem.Env} {outer : List PySem.Env} {h₀ : Heap} {L : Addr} {ρ₀ : Mine.Env} {t : PySem.Expr} {b : List Stmt} {P : Fl -> Mine.Env -> Hp -> Prop} {X : List V -> Hp -> Prop} {Q : PySem.Flow -> Shared -> Prop} {E : Value -> Shared -> Prop} {news₀ : Led} {φ₀ : List Addr}
    {I : Addr} {l : List V} {side : Heap -> Prop} {StO : Nat -> Obj -> Prop} {Pv : Nat -> Value -> Prop} (ow : Own env top L) (C : CxZ Z A env top outer h₀ L ρ₀.sc n) (T : Turns Z A I l.length side StO Pv)
    (hI : ∀ p ∈ news₀, p.1 ≠ I)
    (hV : ∀ i v x news' φ', Ext Z.H news₀ φ₀ news' φ' -> Pv i v -> l[i]? = some x -> VRZ Z news' φ' v x)
    (hside : ∀ m h' news' φ' σ', SimZ Z h₀ L m h' news' φ' σ' -> Ext Z.H news₀ φ₀ news' φ' -> side h')
    (hK : KS Z env h₀ L news₀ φ₀ P Q ρ₀) (hX : XK Z (top :: outer) news₀ φ₀ X E) (hE : PassesOwn (model Z.prog Z.w) A env E)
    {h : Heap} {m : Str -> Option Value} {news : Led} {φ : List Addr} {σ : Hp} {tk : Nat} {o : Obj} (S : SimZ Z h₀ L m h news φ σ) (ex : Ext Z.H news₀ φ₀ news φ) (O : LO Z env L news φ m ρ₀) (hm : (I, o) ∈ news) (off : Off φ Z.H I) (st : StO 0 o)
    (hw : forL (fun v ρ' σ' Q' => evA Z.T n t v ρ' σ' (fun ρ₂ σ₂ => evSs Z.T n b ρ₂ σ₂ Q' X) X) P l ρ₀ σ) :
    codeAny (model Z.prog Z.w) A (.forLoop t (.ref I) b [] env) (fun r s' => match r with | .ok f => Q f s' | .error e => cameBackBy (model Z.prog Z.w) A env E e s') ⟨h, Z.g, Z.d, tk, Z.os⟩ := by
  refine forTurns (InvF Z n env h₀ L ρ₀ t b P X news₀ φ₀ I l StO) (fun k s hI' => ?_) (l.length - 0) ⟨0, h, tk, m, news, φ, σ, ρ₀, o, rfl, rfl, Nat.zero_le _, S, ex, O, rfl, hm, off, st, hw⟩
  obtain ⟨i, h, tk, m, news, φ, σ, ρ, o, rfl, rfl, hi, S, ex, O, hsc, hm, off, st, hw⟩ := hI'
  have swapped : ∀ {h' : Heap} {o' : Obj}, (∀ b ob, b ≠ I -> h.get? b = some ob -> h'.get? b = some ob) -> h'.get? I = some o' ->
      SimZ Z h₀ L m h' (updL I o' news) φ σ /\ Ext Z.H news₀ φ₀ (updL I o' news) φ /\ LO Z env L (updL I o' news) φ m ρ /\ (I, o') ∈ updL I o' news := fun {h' o'} hk ho =>
    ⟨S.swap hm off (T.it _ _ st) hk ho, ⟨ex.pre, fun p hp h1 h2 => let ⟨q1, q2⟩ := ex.keep p hp h1 h2; ⟨updL_mem q1 (hI p hp), q2⟩⟩, O.keep (swap_keep S.nd hm (T.it _ _ st)), updL_self hm⟩
  by_cases hlt : i < l.length
  · have hx : l[i]? = some l[i] := List.getElem?_eq_getElem hlt
    rw [drop_cons hx] at hw
    simp only [forL] at hw
    refine T.item (s := ⟨h, Z.g, Z.d, tk, Z.os⟩) i o hlt (hside _ _ _ _ _ S ex) (S.N.get hm) st fun v h' tk' o' hv hk ho st' => ?_
    obtain ⟨S', ex', O', hm'⟩ := swapped hk ho
    refine T.own (s := ⟨h', Z.g, Z.d, tk', Z.os⟩) (i + 1) i o' t v hv ho st' ?_
    have C' : CxZ Z A env top outer h₀ L ρ.sc n := by rw [hsc]; exact C
    refine wpAny_passesOwn hE (ih.a t l[i] ρ σ _ X ow C' S' O' (hV _ _ _ _ _ ex' hv hx) hw (fun ρ₂ σ₂ p h₂ tk₂ m₂ news₂ φ₂ S₂ E₂ O₂ hsc₂ => ?_) (hX.mono ex'))
    have C₂ : CxZ Z A env top outer h₀ L ρ₂.sc n := by rw [hsc₂]; exact C'
    refine wpAny_passesOwn hE (ih.ss b ρ₂ σ₂ _ X ow C₂ S₂ O₂ p (fun fl ρ₃ σ₃ q f h₃ tk₃ m₃ news₃ φ₃ rf S₃ E₃ O₃ hsc₃ => ?_) (hX.mono (ex'.trans E₂)) hE)
    have ex₃ := (ex'.trans E₂).trans E₃
    have off' : Off φ Z.H I := off
    obtain ⟨k1, k2⟩ := E₂.off hm' off'
    obtain ⟨k3, k4⟩ := E₃.off k1 k2
    have again : forL (fun v ρ' σ' Q' => evA Z.T n t v ρ' σ' (fun ρ₂ σ₂ => evSs Z.T n b ρ₂ σ₂ Q' X) X) P (l.drop (i + 1)) ρ₃ σ₃ -> ∃ k', k' < l.length - i /\ InvF Z n env h₀ L ρ₀ t b P X news₀ φ₀ I l StO k' ⟨h₃, Z.g, Z.d, tk₃, Z.os⟩ := fun hf =>
      ⟨l.length - (i + 1), by omega, i + 1, h₃, tk₃, m₃, news₃, φ₃, σ₃, ρ₃, o', rfl, rfl, hlt, S₃, ex₃, O₃, hsc₃.trans (hsc₂.trans hsc), k3, k4, st', hf⟩
    cases rf with
    | next => exact again q
    | cont => exact again q
    | brk => exact hK _ _ _ q _ _ _ _ _ _ .next S₃ ex₃ O₃ (hsc₃.trans (hsc₂.trans hsc))
    | ret r => exact hK _ _ _ q _ _ _ _ _ _ (.ret r) S₃ ex₃ O₃ (hsc₃.trans (hsc₂.trans hsc))
  · have hin : i = l.length := by omega
    subst hin
    rw [List.drop_length] at hw
    simp only [forL] at hw
    refine T.done (s := ⟨h, Z.g, Z.d, tk, Z.os⟩) o (hside _ _ _ _ _ S ex) (S.N.get hm) st fun h' tk' o' hk ho => ?_
    obtain ⟨S', ex', O', hm'⟩ := swapped hk ho
    exact wpAny_execs_nil (hK _ _ _ hw _ _ _ _ _ _ .next S' ex' O' hsc)
end
end Mine
end

section
open PySem PySem.W PyProof.Rows
namespace Mine
set_option tactic.hygienic false
theorem evE_set {T : Tab} {n : Nat} {e : PySem.Expr} {ρ : Mine.Env} {σ : Hp} {P : V -> Hp -> Prop} {X : List V -> Hp -> Prop} (h : evE T n e ρ σ P X) : isSet e = false := by
  cases n with
  | zero => exact False.elim h
  | succ n => cases e <;> first | rfl | (exact False.elim h)
theorem swaps_ok {e : PySem.Expr} (h : isComp e = false) (t : Option PySem.Expr) (l : Nat) (env : PySem.Env) : swapsWith e t l env = pure false := by
  cases e <;> first | rfl | (unfold isComp at h; cases h)
theorem folded_ok {e : PySem.Expr} (h : isSet e = false) (env : PySem.Env) (x : Value) : foldedSetIterable e env x = pure x := by
  cases e <;> first | rfl | (unfold isSet at h; cases h)
theorem Assign_any {M : Model} {A : Around} {E : Value -> Shared -> Prop} {s : Shared} {env : PySem.Env} {t value : PySem.Expr} {pos : Pos} {Q : PySem.Flow -> Shared -> Prop} (ht : plain1 t = true)
    (hs : isComp value = false) (hw : swappedStores [t] value env = pure none)
    (h : wpAny M A (eval value env) (fun v s₁ => wpAny M A (assign t env v) (fun _ => Q .next) E s₁) E s) :
    wpAny M A (exec (.Assign [t] value pos) env) Q E s := by
  rw [exec_Assign]
  refine wpAny_bind (wpAny_standAt ?_)
  have e1 : swapsWithSole [t] value pos.line env = pure false := swaps_ok hs (some t) _ env
  rw [e1]
  refine wpAny_bind (wpAny_pure ?_)
  rw [if_neg (by decide)]
  refine wpAny_bind (wpAny_mono h (fun v s₁ h₁ => ?_) fun _ _ x => x)
  rw [hw]
  refine wpAny_bind (wpAny_pure ?_)
  have e2 : (assignEach [t] env).map (·.2) = [assign t env] := by cases t <;> first | rfl | (unfold plain1 at ht; cases ht)
  rw [e2]
  show wpAny M A (do assignAll v [assign t env]; pure .next) Q E s₁
  exact wpAny_bind (wpAny_mono h₁ (fun _ _ x => wpAny_pure x) fun _ _ x => x)
section
variable {Z : Wd} {n : Nat}
theorem storeG {M : Model} {A : Around} {E : Value -> Shared -> Prop} {env : PySem.Env} {h₀ h : Heap} {L : Addr} {g : Array GenState} {d : Drawn} {tk : Nat} {os : OsState} {sc : List (Str × NameKind)} {m : Str -> Option Value} {news : Led} {x : Str} {v : Value} {Q : Unit -> Shared -> Prop} (eg : EnvG env L sc) (hl : env.locals = L) (hx : env.kindOf x = some .local)
    (F : Fr h₀ L h m) (N : News h₀ L h news) (k : ∀ h', Fr h₀ L h' (fun y => if y = x then some v else m y) -> News h₀ L h' news -> Q () ⟨h', g, d, tk + 1, os⟩) : wpAny M A (storeName env x v) Q E ⟨h, g, d, tk, os⟩ := by
  refine wpAny_storeName_local hx (m := m) (by rw [hl]; exact F.ns) (fun h' hn hs => ?_) ?_
  · rw [hl] at hn hs
    exact k h' (F.set hn hs) (N.set hs)
  · rw [eg.kind]
    rfl
noncomputable def SAll (Z : Wd) (n : Nat) (A : Around) (env top : PySem.Env) (outer : List PySem.Env) (h₀ : Heap) (L : Addr) (ts : List PySem.Expr) : Prop := ∀ {xs : List N} {l : List V} {vs : List Value} {ρ ρ' : Mine.Env} {sc : List (Str × NameKind)} {h : Heap} {m : Str -> Option Value} {news : Led} {φ : List Addr} {σ : Hp} {tk : Nat} {P : Mine.Env -> Hp -> Prop} {Q : Unit -> Shared -> Prop} {E : Value -> Shared -> Prop},
    Own env top L -> ρ.sc = sc -> CxZ Z A env top outer h₀ L sc n -> SimZ Z h₀ L m h news φ σ -> LO Z env L news φ m ρ -> names ts = some xs -> VRsZ Z news φ vs l -> putAll ρ xs l = some ρ' -> P ρ' σ -> KA Z env h₀ L news φ P Q ρ ->
    wpAny (model Z.prog Z.w) A (assignInOrder ((assignEach ts env).map (·.2)) vs) Q E ⟨h, Z.g, Z.d, tk, Z.os⟩
theorem assignAll_K {A : Around} {env top : PySem.Env} {outer : List PySem.Env} {h₀ : Heap} {L : Addr} (ts : List PySem.Expr) : SAll Z n A env top outer h₀ L ts := by
  induction ts with
  | nil =>
    intro xs l vs ρ ρ' sc h m news φ σ tk P Q E ow hsc C S O hn rv hp hw hK
    cases hn
    cases l with
    | nil => cases hp; obtain rfl := rv.nil_e; exact wpAny_pure (hK _ _ hw _ _ _ _ _ S (.refl _ _ _) O rfl)
    | cons _ _ => exact nS hp
  | cons t ts ih =>
    intro xs l vs ρ ρ' sc h m news φ σ tk P Q E ow hsc C S O hn rv hp hw hK
    obtain ⟨_, xs, hx, hns, rfl⟩ := mapO_e hn
    obtain ⟨x, pos, rfl, rfl⟩ := nameE_e hx
    cases l with
    | nil => exact nS hp
    | cons y l =>
      replace rv := rv.cons_e
      obtain ⟨u, us, rfl, rv, rs⟩ := rv
      obtain ⟨hl, hpp⟩ := putAll_e hp
      obtain ⟨g1, g2⟩ := C.env_.locOk (hsc ▸ hl)
      refine wpAny_bind (wpAny_holding (wpAny_assign_Name (storeG C.env_ ow.2 g1 S.F S.N fun h' F' N' => ?_)))
      exact ih (ρ := ρ.put x.cps.toList y) ow hsc C (S.frame F' N') (O.put g2 g1 ow.2 rv) hns rs hpp hw fun ρ₂ σ₂ p h₂ tk₂ m₂ news₂ φ₂ S₂ E₂ O₂ hs₂ => hK _ _ p _ _ _ _ _ S₂ E₂ O₂ hs₂
theorem names_each {ts : List PySem.Expr} {env : PySem.Env} : ∀ {xs : List N}, names ts = some xs -> (assignEach ts env).length = xs.length /\ ∀ x ∈ assignEach ts env, x.1 = false := by
  induction ts with
  | nil => intro xs h; cases h; exact ⟨rfl, fun _ q => nomatch q⟩
  | cons t ts ih =>
    intro xs h
    obtain ⟨_, xs, hx, hn, rfl⟩ := mapO_e h
    obtain ⟨x, pos, rfl, rfl⟩ := nameE_e hx
    obtain ⟨h1, h2⟩ := ih hn
    exact ⟨congrArg (· + 1) h1, fun y hy => by rcases List.mem_cons.mp hy with rfl | hy; rfl; exact h2 y hy⟩
theorem putAll_len {xs : List N} : ∀ {l : List V} {ρ ρ' : Mine.Env}, putAll ρ xs l = some ρ' -> xs.length = l.length := by
  induction xs with
  | nil =>
    intro l ρ ρ' h
    cases l with
    | nil => rfl
    | cons _ _ => exact nS h
  | cons x xs ih =>
    intro l ρ ρ' h
    cases l with
    | nil => exact nS h
    | cons _ _ => exact congrArg (· + 1) (ih (putAll_e h).2)
set_option tactic.hygienic true
theorem evA_e {T : Tab} {n : Nat} {t : PySem.Expr} {v : V} {ρ : Mine.Env} {σ : Hp} {Q : Mine.Env -> Hp -> Prop} {X : List V -> Hp -> Prop} (h : evA T (n + 1) t v ρ σ Q X) :
    (∃ x p, t = .Name x p /\ isLoc ρ.sc x.cps.toList = true /\ Q (ρ.put x.cps.toList v) σ) \/ (∃ ts k p xs l ρ', t = .Tuple ts k p /\ names ts = some xs /\ v = .tup l /\ putAll ρ xs l = some ρ' /\ Q ρ' σ) \/
    (∃ o f p, t = .Attribute o f p /\ evE T n o ρ σ (asgAttr v f.cps.toList ρ Q) X) \/ ∃ o k p1 p2 p, t = .Subscript o (.UnaryOp .USub (.Constant (.int 1) k p1) p2) p /\ evE T n o ρ σ (asgItem v ρ Q) X := by
  cases t
  case Name x p => obtain ⟨h1, h⟩ := ifB_e h; exact .inl ⟨x, p, rfl, h1, h⟩
  case Tuple ts k p =>
    obtain ⟨xs, h1, h⟩ := oP_e h
    obtain ⟨l, h2, h⟩ := oP_e h
    obtain ⟨ρ', h3, h⟩ := oP_e h
    exact .inr (.inl ⟨ts, k, p, xs, l, ρ', rfl, h1, tupV_e h2, h3, h⟩)
  case Attribute o f p => exact .inr (.inr (.inl ⟨o, f, p, rfl, h⟩))
  case Subscript o i p =>
    obtain ⟨h1, h⟩ := ifB_e h
    obtain ⟨k, p1, p2, rfl⟩ := neg1_e h1
    exact .inr (.inr (.inr ⟨o, k, p1, p2, p, rfl, h⟩))
  all_goals exact False.elim h
set_option tactic.hygienic false
theorem okA (W : Wk Z) (ih : OK Z n) : SA Z (n + 1) := by
  intro A env top outer h₀ L t v ρ σ P X h m news φ tk u Q E ow C S O rv hw hK hX
  have C' := C.down (Nat.le_succ n)
  rcases evA_e hw with ⟨x, pos, rfl, hl, hw⟩ | ⟨ts, k, pos, xs, l, ρ', rfl, hn, rfl, hp, hw⟩ | ⟨o, f, pos, rfl, hw⟩ | ⟨o, k1, p1, p2, pos, rfl, hw⟩
  · obtain ⟨g1, g2⟩ := C.env_.locOk hl
    exact wpAny_assign_Name (storeG C.env_ ow.2 g1 S.F S.N fun h' F' N' => hK _ _ hw _ _ _ _ _ (S.frame F' N') (.refl _ _ _) (O.put g2 g1 ow.2 rv) rfl)
  · obtain ⟨_, _, _, rfl, mm, o, r, z⟩ := rv.tup_e
    obtain ⟨n1, n2⟩ := names_each (env := env) hn
    refine unpackN_ (s := ⟨h, Z.g, Z.d, tk, Z.os⟩) S.F S.N (S.N.isTup mm) C.hd (by rw [n1, putAll_len hp, List.size_toArray, r.length]) (List.findIdx?_eq_none_iff.mpr n2) (fun h' F' N' => assignAll_K ts ow rfl C' (S.frame F' N') O hn r hp hw hK)
  · refine wpAny_bind (wpAny_holding (ih.e o ρ σ _ X C' S O hw (fun x σ₁ p w h₁ tk₁ news₁ φ₁ S₁ E₁ r₁ => ?_) hX))
    refine wpAny_bind (wpAny_standAt (wpAny_bind (wpAny_holding ?_)))
    obtain ⟨c, i, ob, rfl, hs, p⟩ := asgAttr_e p
    obtain ⟨_, _, _, rfl, hC, mm, o, hi⟩ := r₁.obj_e
    obtain ⟨b, hb, ho⟩ := S₁.ob _ _ hs
    obtain rfl := Option.some.inj (hi.symm.trans hb)
    rcases asgObj_e p with ⟨ks, vs, rfl, c1, c2, p⟩ | ⟨pre, rest, pt, rfl, hfe, p⟩
    · cases ho with
      | inst m2 r =>
        refine setA_rule (ao := fun _ _ => .inst [] []) W.kok C.X S₁ hC mm hi m2 r c2 c1 (rv.mono E₁) fun h' tk' es' n' F' N' V' M' => ?_
        obtain ⟨S₂, E₂⟩ := S₁.upd hi F' N' (.inst M' V')
        exact wpAny_release' (hK _ _ p _ _ _ _ _ S₂ (E₁.trans E₂) (O.mono (E₁.trans E₂)) rfl)
    · cases ho with
      | row m2 r =>
        refine setA_rule (ao := fun _ _ => .inst [] []) (f := f) W.kok C.X S₁ hC mm hi m2 r (by decide) (by rw [hfe]; rfl) (rv.mono E₁) fun h' tk' es' n' F' N' V' M' => ?_
        rw [hfe] at V'
        obtain ⟨S₂, E₂⟩ := S₁.upd (ao := .row pre rest v) hi F' N' (.row M' V')
        exact wpAny_release' (hK _ _ p _ _ _ _ _ S₂ (E₁.trans E₂) (O.mono (E₁.trans E₂)) rfl)
  · refine wpAny_bind (wpAny_holding (ih.e o ρ σ _ X C' S O hw (fun x σ₁ p w h₁ tk₁ news₁ φ₁ S₁ E₁ r₁ => ?_) hX))
    refine wpAny_bind (wpAny_holding (UnaryOp_ (wpAny_Constant_int (neg_int ?_))))
    refine wpAny_bind (wpAny_standAt (wpAny_bind (wpAny_holding ?_)))
    obtain ⟨i, y, l, rfl, hs, p⟩ := asgItem_e p
    obtain ⟨_, rfl, hi⟩ := r₁.lst_e
    exact setLast_rule S₁ hi hs (rv.mono E₁) p fun σ₂ p₂ h₂ tk₂ news₂ φ₂ S₂ E₂ => wpAny_release' (hK _ _ p₂ _ _ _ _ _ S₂ (E₁.trans E₂) (O.mono (E₁.trans E₂)) rfl)
end
end Mine
end

section
open PySem PySem.W PyProof.Rows
namespace Mine
structure Re (FX FX' : Fix) (news news' : Led) (φ φ' H H' : List Addr) : Prop where
  sd : FX'.sd = FX.sd
  td : FX'.td = FX.td
  at_ : ∀ (i : Nat) (a : Addr), φ[i]? = some a -> φ'[i]? = some a
  off : ∀ p ∈ news, Off φ H p.1 -> p ∈ news' /\ Off φ' H' p.1
  hd : ∀ a, H[0]? = some a -> H'[0]? = some a
section
variable {CA : ClsAt} {FX FX' : Fix} {news news' : Led} {φ φ' H H' : List Addr}
set_option tactic.hygienic false
theorem Re.to0 (e : Re FX FX' news news' φ φ' H H') : Re0 (fun _ => True) FX FX' news news' φ φ' H H' := ⟨fun _ _ _ h => ⟨trivial, e.sd ▸ h⟩, fun _ _ _ h => ⟨fun _ _ => trivial, e.td ▸ h⟩, e.at_, fun p hp _ h => e.off p hp h, e.hd, fun _ _ _ _ _ => trivial, fun _ _ _ => trivial⟩
theorem VR.re (e : Re FX FX' news news' φ φ' H H') {v : Value} {x : V} (h : VR CA FX news φ H v x) : VR CA FX' news' φ' H' v x := VR.re0 e.to0 h
theorem VRs.re (e : Re FX FX' news news' φ φ' H H') {vs : List Value} {l : List V} (h : VRs CA FX news φ H vs l) : VRs CA FX' news' φ' H' vs l := VRs.re0 e.to0 h
theorem VFs.re (e : Re FX FX' news news' φ φ' H H') {es : List DictEntry} {ks : List N} {l : List V} (h : VFs CA FX news φ H es ks l) : VFs CA FX' news' φ' H' es ks l := VFs.re0 e.to0 h
end
noncomputable def Wd.pinned (Z : Wd) (pin : Led) (H : List Addr) : Wd := { Z with pin := pin, H := H }
section
variable {Z : Wd} {pin pin₂ : Led} {H : List Addr} {h₀ h h' : Heap} {L : Addr} {m : Str -> Option Value} {news : Led}
theorem FeedOk.pin_in (f : FeedOk pin H news) : (∀ p ∈ pin, p ∈ news /\ p.1 ∈ H) /\ H.Nodup := by
  obtain ⟨fa, ca, x, y, tx, ty, n, vs, is, n', rfl, nd, mp, _, _, _, _, _, _⟩ := f
  exact ⟨fun p hp => ⟨mp p hp, .tail _ (.tail _ (List.mem_map.mpr ⟨p, hp, rfl⟩))⟩, nd⟩
theorem Sim.pinUpd0 (S : SimZ (Z.pinned pin H) h₀ L m h news [] []) {a : Addr} {o o' : Obj} (hf : pin₂.map (·.1) = pin.map (·.1)) (h2 : ∀ q ∈ pin₂, (q ∈ pin /\ q.1 ≠ a) \/ q = (a, o')) (hm : (a, o) ∈ pin)
    (F' : Fr h₀ L h' m) (N' : News h₀ L h' (updL a o' news)) : SimZ (Z.pinned pin₂ H) h₀ L m h' (updL a o' news) [] [] /\ ∀ p ∈ news, p.1 ∉ H -> p ∈ updL a o' news := by
  have fd : FeedOk pin H news := S.fd
  obtain ⟨hin, nd⟩ := fd.pin_in
  refine ⟨⟨F', N', by rw [updL_fst]; exact S.nd, List.nodup_nil, rfl, fun _ q => (nomatch q), fun i ob e => by simp at e, ?_⟩, fun p hp hn => updL_mem hp fun e => hn (e ▸ (hin _ hm).2)⟩
  show FeedOk pin₂ H (updL a o' news)
  obtain ⟨fa, ca, x, y, tx, ty, n, vs, is, n', rfl, nd, mp, m1, m2, r1, r2, r3, r4⟩ := fd
  have ha : a ∈ pin.map (·.1) := List.mem_map.mpr ⟨_, hm, rfl⟩
  obtain ⟨q1, q2⟩ := List.nodup_cons.mp nd
  obtain ⟨q3, q4⟩ := List.nodup_cons.mp q2
  refine ⟨fa, ca, x, y, tx, ty, n, vs, is, n', by rw [hf], nd, fun q hq => ?_, updL_mem m1 fun e => ?_, updL_mem m2 fun e => ?_, r1, r2, r3, r4⟩
  · rcases h2 q hq with ⟨h3, h4⟩ | rfl
    · exact updL_mem (mp q h3) h4
    · exact updL_self (mp _ hm)
  · have e : fa = a := e
    exact q1 (.tail _ (e ▸ ha))
  · have e : ca = a := e
    exact q3 (e ▸ ha)
theorem upd_frame {a : Addr} {o o' : Obj} (F : Fr h₀ L h m) (N : News h₀ L h news) (hm : (a, o) ∈ news) (hk : ∀ b ob, b ≠ a -> h.get? b = some ob -> h'.get? b = some ob) (ho : h'.get? a = some o') : Fr h₀ L h' m /\ News h₀ L h' (updL a o' news) := by
  have NI := N _ hm
  refine ⟨⟨F.ns.at' fun ob e => hk _ ob (Ne.symm NI.2.1) e, fun b ob e => hk b ob (fun q => by have := NI.2.2; simp only at this; rw [<- q, e] at this; cases this) (F.keep b ob e), F.above⟩, fun p hp => ?_⟩
  obtain ⟨q, hq, rfl⟩ := List.mem_map.mp hp
  by_cases e : q.1 = a
  · simp only [e, if_true]; exact ⟨ho, NI.2.1, NI.2.2⟩
  · simp only [e, if_false]; exact ⟨hk _ _ e (N q hq).1, (N q hq).2⟩
theorem re_pin {news' : Led} (k : ∀ p ∈ news, p.1 ∉ H -> p ∈ news') : Re (FX0 Z.prog Z.w pin) (FX0 Z.prog Z.w pin₂) news news' [] [] H H :=
  ⟨rfl, rfl, fun _ _ e => e, fun p hp o => ⟨k p hp o.2, o⟩, fun _ e => e⟩
theorem lookup_relabel {env : PySem.Env} : ∀ {names : List (Str × NameKind)} {x : Str},
    (names.map fun (n, k) => if (k == NameKind.free && env.scope.kind == .function && env.kindOf n == some .cell) then (n, NameKind.cell) else (n, k)).lookup x =
      (names.lookup x).map fun k => if (k == NameKind.free && env.scope.kind == .function && env.kindOf x == some .cell) then NameKind.cell else k
  | [], _ => rfl
  | (n, k) :: r, x => by
    have ih := @lookup_relabel env r x
    rw [List.map_cons]
    show List.lookup x ((if (k == NameKind.free && env.scope.kind == .function && env.kindOf n == some .cell) = true then (n, NameKind.cell) else (n, k)) :: _) = _
    by_cases hx : x = n
    · subst hx
      by_cases hc : (k == NameKind.free && env.scope.kind == .function && env.kindOf x == some .cell) = true
      · rw [if_pos hc]
        simp only [List.lookup_cons, beq_self_eq_true, Option.map_some]
        rw [if_pos hc]
      · rw [if_neg hc]
        simp only [List.lookup_cons, beq_self_eq_true, Option.map_some]
        rw [if_neg hc]
    · have hb : (x == n) = false := by simpa using hx
      by_cases hc : (k == NameKind.free && env.scope.kind == .function && env.kindOf n == some .cell) = true
      · rw [if_pos hc]
        simp only [List.lookup_cons, hb]
        exact ih
      · rw [if_neg hc]
        simp only [List.lookup_cons, hb]
        exact ih
theorem compEnv_good {env : PySem.Env} {sc : List (Str × NameKind)} (g : EnvG env L sc) {scope : Scope} (hk : scope.kind = .function) (cl : List (Str × Addr)) (C : Addr) : EnvG (compEnvC scope cl C env) L scope.names where
  frame := g.frame
  kind := hk
  glob := g.glob
  blt := g.blt
  loc := fun x => by
    show _ ↔ (relabel scope env).names.lookup x = some .local
    unfold relabel
    simp only
    rw [lookup_relabel]
    constructor
    · intro h
      rw [isLoc1_lookup h]
      rfl
    · intro h
      cases q : scope.names.lookup x with
      | none => rw [q] at h; cases h
      | some k =>
        rw [q] at h
        simp only [Option.map_some, Option.some.injEq] at h
        split at h
        · cases h
        · subst h; exact lookup_isLoc1 q
  gl := fun x h => by
    show (relabel scope env).names.lookup x = some .globalImplicit
    unfold relabel
    simp only
    rw [lookup_relabel, isGlb1_lookup h]
    rfl
end
end Mine
end

section
open PySem PySem.W PyProof.Rows
namespace Mine
section
variable {Z : Wd} {n : Nat}
noncomputable abbrev pinL (Z : Wd) (I C D : Addr) (oI oC : Obj) (vs : List Value) (nD : Nat) : Led := Z.pin ++ [(I, oI), (C, oC), (D, listOf vs.toArray nD)]
noncomputable abbrev ZP (Z : Wd) (I C D : Addr) (oI oC : Obj) (vs : List Value) (nD : Nat) : Wd := Z.pinned (pinL Z I C D oI oC vs nD) (Z.H ++ [I, C, D])
structure CI (Z : Wd) (h₀ : Heap) (L : Addr) (m : Str -> Option Value) (news₀ : Led) (I C D : Addr) (oI oC : Obj) (mC : Str -> Option Value) (vs : List Value) (nD : Nat) (acc : List V) (h : Heap) (news : Led) : Prop where
  S : SimZ (ZP Z I C D oI oC vs nD) h₀ L m h news [] []
  ns : LCg.NsObj oC mC
  r : VRsZ (ZP Z I C D oI oC vs nD) news [] vs acc
  ex : ∀ p ∈ news₀, p.1 ∉ Z.H -> p ∈ news
  fr : ∀ p ∈ news₀, p.1 ∉ [I, C, D]
variable {h₀ h h' : Heap} {L : Addr} {m : Str -> Option Value} {news₀ news : Led} {I C D : Addr} {oI oC : Obj} {mC : Str -> Option Value} {vs : List Value} {nD : Nat} {acc : List V}
set_option tactic.hygienic false
theorem pin3 {I C D : Addr} (nd : (Z.pin.map (·.1) ++ [I, C, D]).Nodup) : (∀ q ∈ Z.pin, q.1 ≠ I /\ q.1 ≠ C /\ q.1 ≠ D) /\ I ≠ C /\ I ≠ D /\ C ≠ D := by
  rw [List.nodup_append] at nd
  obtain ⟨_, h2, h3⟩ := nd
  simp only [List.nodup_cons, List.mem_cons, List.not_mem_nil, or_false, not_or] at h2
  refine ⟨fun q hq => ?_, h2.1.1, h2.1.2, h2.2.1⟩
  have hq' : q.1 ∈ Z.pin.map (·.1) := List.mem_map.mpr ⟨q, hq, rfl⟩
  exact ⟨h3 _ hq' _ (.head _), h3 _ hq' _ (.tail _ (.head _)), h3 _ hq' _ (.tail _ (.tail _ (.head _)))⟩
theorem CI.nd (c : CI Z h₀ L m news₀ I C D oI oC mC vs nD acc h news) : (Z.pin.map (·.1) ++ [I, C, D]).Nodup := by
  have fd : FeedOk (pinL Z I C D oI oC vs nD) (Z.H ++ [I, C, D]) news := c.S.fd
  obtain ⟨fa, ca, x, y, tx, ty, n, us, is, n', e, nd, _⟩ := fd
  rw [e] at nd
  have := (List.nodup_cons.mp (List.nodup_cons.mp nd).2).2
  simpa [pinL] using this
theorem CI.mem (c : CI Z h₀ L m news₀ I C D oI oC mC vs nD acc h news) : (I, oI) ∈ news /\ (C, oC) ∈ news /\ (D, listOf vs.toArray nD) ∈ news := by
  have fd : FeedOk (pinL Z I C D oI oC vs nD) (Z.H ++ [I, C, D]) news := c.S.fd
  have := fd.pin_in.1
  exact ⟨(this _ (by simp [pinL])).1, (this _ (by simp [pinL])).1, (this _ (by simp [pinL])).1⟩
theorem CI.off (c : CI Z h₀ L m news₀ I C D oI oC mC vs nD acc h news) {p : Addr × Obj} (hp : p ∈ news₀) (hn : p.1 ∉ Z.H) : p.1 ∉ Z.H ++ [I, C, D] := fun q => (List.mem_append.mp q).elim hn (c.fr p hp)
theorem CI.setI (c : CI Z h₀ L m news₀ I C D oI oC mC vs nD acc h news) {o' : Obj} (hk : ∀ b ob, b ≠ I -> h.get? b = some ob -> h'.get? b = some ob) (ho : h'.get? I = some o') :
    CI Z h₀ L m news₀ I C D o' oC mC vs nD acc h' (updL I o' news) /\ ∀ p ∈ news, p.1 ∉ Z.H ++ [I, C, D] -> p ∈ updL I o' news := by
  obtain ⟨d1, d2, d3, d4⟩ := pin3 c.nd
  obtain ⟨F', N'⟩ := upd_frame c.S.F c.S.N c.mem.1 hk ho
  obtain ⟨S', k⟩ := Sim.pinUpd0 (pin₂ := pinL Z I C D o' oC vs nD) c.S (by simp [pinL]) (fun q hq => by
    rcases List.mem_append.mp hq with hq | hq
    · exact .inl ⟨List.mem_append_left _ hq, (d1 q hq).1⟩
    · simp only [List.mem_cons, List.not_mem_nil, or_false] at hq
      rcases hq with rfl | rfl | rfl
      · exact .inr rfl
      · exact .inl ⟨by simp [pinL], d2.symm⟩
      · exact .inl ⟨by simp [pinL], d3.symm⟩) (by simp [pinL] : (I, oI) ∈ pinL Z I C D oI oC vs nD) F' N'
  exact ⟨⟨S', c.ns, VRs.re (re_pin k) c.r, fun p hp hn => k p (c.ex p hp hn) (c.off hp hn), c.fr⟩, k⟩
theorem CI.setC (c : CI Z h₀ L m news₀ I C D oI oC mC vs nD acc h news) {o' : Obj} {m' : Str -> Option Value} (hk : ∀ b ob, b ≠ C -> h.get? b = some ob -> h'.get? b = some ob) (ho : h'.get? C = some o') (hn : LCg.NsObj o' m') :
    CI Z h₀ L m news₀ I C D oI o' m' vs nD acc h' (updL C o' news) /\ ∀ p ∈ news, p.1 ∉ Z.H ++ [I, C, D] -> p ∈ updL C o' news := by
  obtain ⟨d1, d2, d3, d4⟩ := pin3 c.nd
  obtain ⟨F', N'⟩ := upd_frame c.S.F c.S.N c.mem.2.1 hk ho
  obtain ⟨S', k⟩ := Sim.pinUpd0 (pin₂ := pinL Z I C D oI o' vs nD) c.S (by simp [pinL]) (fun q hq => by
    rcases List.mem_append.mp hq with hq | hq
    · exact .inl ⟨List.mem_append_left _ hq, (d1 q hq).2.1⟩
    · simp only [List.mem_cons, List.not_mem_nil, or_false] at hq
      rcases hq with rfl | rfl | rfl
      · exact .inl ⟨by simp [pinL], d2⟩
      · exact .inr rfl
      · exact .inl ⟨by simp [pinL], d4.symm⟩) (by simp [pinL] : (C, oC) ∈ pinL Z I C D oI oC vs nD) F' N'
  exact ⟨⟨S', hn, VRs.re (re_pin k) c.r, fun p hp hn => k p (c.ex p hp hn) (c.off hp hn), c.fr⟩, k⟩
theorem CI.setD (c : CI Z h₀ L m news₀ I C D oI oC mC vs nD acc h news) {u : Value} {y : V} (ru : VRZ (ZP Z I C D oI oC vs nD) news [] u y) (F' : Fr h₀ L h' m) (N' : News h₀ L h' (updL D (listOf (vs ++ [u]).toArray (nD + 1)) news)) :
    CI Z h₀ L m news₀ I C D oI oC mC (vs ++ [u]) (nD + 1) (acc ++ [y]) h' (updL D (listOf (vs ++ [u]).toArray (nD + 1)) news) := by
  obtain ⟨d1, d2, d3, d4⟩ := pin3 c.nd
  obtain ⟨S', k⟩ := Sim.pinUpd0 (pin₂ := pinL Z I C D oI oC (vs ++ [u]) (nD + 1)) c.S (by simp [pinL]) (fun q hq => by
    rcases List.mem_append.mp hq with hq | hq
    · exact .inl ⟨List.mem_append_left _ hq, (d1 q hq).2.2⟩
    · simp only [List.mem_cons, List.not_mem_nil, or_false] at hq
      rcases hq with rfl | rfl | rfl
      · exact .inl ⟨by simp [pinL], d3⟩
      · exact .inl ⟨by simp [pinL], d4⟩
      · exact .inr rfl) (by simp [pinL] : (D, listOf vs.toArray nD) ∈ pinL Z I C D oI oC vs nD) F' N'
  exact ⟨S', c.ns, (VRs.re (re_pin k) c.r).append (.cons (VR.re (re_pin k) ru) .nil), fun p hp hn => k p (c.ex p hp hn) (c.off hp hn), c.fr⟩
theorem storeC {A : Around} {cenv : PySem.Env} {x : Str} {v : Value} {tk : Nat} {Q : Unit -> Shared -> Prop} {E : Value -> Shared -> Prop} (c : CI Z h₀ L m news₀ I C D oI oC mC vs nD acc h news) (hk : cenv.scope.kind = .function) (hl : cenv.locals = C) (hx : cenv.kindOf x = some .local)
    (q : ∀ h' o', CI Z h₀ L m news₀ I C D oI o' (fun y => if y = x then some v else mC y) vs nD acc h' (updL C o' news) -> (∀ p ∈ news, p.1 ∉ Z.H ++ [I, C, D] -> p ∈ updL C o' news) -> Q () ⟨h', Z.g, Z.d, tk + 1, Z.os⟩) :
    wpAny (model Z.prog Z.w) A (storeName cenv x v) Q E ⟨h, Z.g, Z.d, tk, Z.os⟩ := by
  refine wpAny_storeName_local hx (m := mC) (by rw [hl]; exact c.ns.ns (c.S.N.get c.mem.2.1)) (fun h' hn hs => ?_) (by rw [hk]; rfl)
  rw [hl] at hn hs
  obtain ⟨o', e, hno⟩ := LCg.ns_obj hn
  obtain ⟨c', k⟩ := c.setC (fun b ob hb e => (hs.2 b hb).trans e) e hno
  exact q h' o' c' k
noncomputable def StC (Z : Wd) (h₀ : Heap) (L : Addr) (m : Str -> Option Value) (news₀ : Led) (I C D : Addr) (oI : Obj) (vs : List Value) (nD : Nat) (acc : List V) (A : Around) (cenv : PySem.Env) (ts : List PySem.Expr) : Prop :=
  ∀ {xs : List N} {l : List V} {us : List Value} {h : Heap} {news : Led} {oC : Obj} {mC : Str -> Option Value} {tk : Nat} {Q : Unit -> Shared -> Prop} {E : Value -> Shared -> Prop},
    CI Z h₀ L m news₀ I C D oI oC mC vs nD acc h news -> names ts = some xs -> (∀ x : Str, x.cps.toList ∈ xs -> cenv.kindOf x = some .local) -> xs.Nodup -> xs.length = l.length -> VRsZ (ZP Z I C D oI oC vs nD) news [] us l ->
    (∀ h' tk' news' o' m', CI Z h₀ L m news₀ I C D oI o' m' vs nD acc h' news' -> (∀ p ∈ news, p.1 ∉ Z.H ++ [I, C, D] -> p ∈ news') -> (∀ (y : Str) (w : V), look xs l y.cps.toList = some w -> ∃ u, m' y = some u /\ VRZ (ZP Z I C D oI o' vs nD) news' [] u w) -> (∀ y : Str, y.cps.toList ∉ xs -> m' y = mC y) -> Q () ⟨h', Z.g, Z.d, tk', Z.os⟩) ->
    wpAny (model Z.prog Z.w) A (assignInOrder ((assignEach ts cenv).map (·.2)) us) Q E ⟨h, Z.g, Z.d, tk, Z.os⟩
theorem storesC {A : Around} {cenv : PySem.Env} (hk : cenv.scope.kind = .function) (hl : cenv.locals = C) (ts : List PySem.Expr) : StC Z h₀ L m news₀ I C D oI vs nD acc A cenv ts := by
  induction ts with
  | nil =>
    intro xs l us h news oC mC tk Q E c hn hloc nd hlen rv q
    obtain rfl := Option.some.inj hn
    obtain rfl : l = [] := List.length_eq_zero_iff.mp hlen.symm
    obtain rfl := rv.nil_e
    exact wpAny_pure (q _ _ _ _ _ c (fun p hp _ => hp) (fun y w e => nS e) fun _ _ => rfl)
  | cons t ts ih =>
    intro xs l us h news oC mC tk Q E c hn hloc nd hlen rv q
    obtain ⟨k0, xs', hx, hns, rfl⟩ := mapO_e hn
    obtain ⟨x, pos, rfl, rfl⟩ := nameE_e hx
    obtain ⟨nd1, nd2⟩ := List.nodup_cons.mp nd
    cases l with
    | nil => exact nomatch hlen
    | cons y l' =>
      replace rv := rv.cons_e
      obtain ⟨u, us, rfl, rv, rs⟩ := rv
      refine wpAny_bind (wpAny_holding (wpAny_assign_Name (storeC c hk hl (hloc x (.head _)) fun h' o' c' k => ?_)))
      refine ih c' hns (fun z hz => hloc z (.tail _ hz)) nd2 (Nat.succ.inj hlen) (VRs.re (re_pin k) rs) fun h₂ tk₂ news₂ o₂ m₂ c₂ k₂ f₂ g₂ => ?_
      refine q _ _ _ _ _ c₂ (fun p hp hn => k₂ p (k p hp hn) hn) (fun z w hz => ?_) fun z hz => ?_
      · rcases look_e hz with ⟨e, rfl⟩ | ⟨_, hz⟩
        · obtain rfl : x = z := str_ext (leq_e e)
          exact ⟨u, (g₂ x nd1).trans (if_pos rfl), VR.re (re_pin fun p hp hn => k₂ p (k p hp hn) hn) rv⟩
        · exact f₂ z w hz
      · exact (g₂ z fun q => hz (.tail _ q)).trans (if_neg fun e : z = x => hz (e ▸ .head _))
theorem assignC {A : Around} (hd : A.handled = none) {cenv : PySem.Env} (hk : cenv.scope.kind = .function) (hl : cenv.locals = C) {t : PySem.Expr} {tks : List N} {x : V} {tvs : List V} {v : Value} {tk : Nat} {Q : Unit -> Shared -> Prop} {E : Value -> Shared -> Prop}
    (c : CI Z h₀ L m news₀ I C D oI oC mC vs nD acc h news) (ht : tgts t = some tks) (hloc : ∀ x : Str, x.cps.toList ∈ tks -> cenv.kindOf x = some .local) (nd : tks.Nodup) (htv : tvals t x = some tvs) (hlen : tks.length = tvs.length) (rv : VRZ (ZP Z I C D oI oC vs nD) news [] v x)
    (q : ∀ h' tk' news' o' m', CI Z h₀ L m news₀ I C D oI o' m' vs nD acc h' news' -> (∀ p ∈ news, p.1 ∉ Z.H ++ [I, C, D] -> p ∈ news') -> (∀ (y : Str) (w : V), look tks tvs y.cps.toList = some w -> ∃ u, m' y = some u /\ VRZ (ZP Z I C D oI o' vs nD) news' [] u w) -> Q () ⟨h', Z.g, Z.d, tk', Z.os⟩) :
    wpAny (model Z.prog Z.w) A (assign t cenv v) Q E ⟨h, Z.g, Z.d, tk, Z.os⟩ := by
  rcases tgts_e ht with ⟨y, pos, rfl, rfl⟩ | ⟨ts, kk, pos, rfl, hn⟩
  · obtain rfl := Option.some.inj htv
    refine wpAny_assign_Name (storeC c hk hl (hloc y (.head _)) fun h' o' c' k => ?_)
    refine q _ _ _ _ _ c' k fun z w hz => ?_
    rcases look_e hz with ⟨e, rfl⟩ | ⟨_, hz⟩
    · exact ⟨v, if_pos (str_ext (leq_e e)).symm, VR.re (re_pin k) rv⟩
    · exact nS hz
  · obtain rfl := tvals_t htv
    obtain ⟨a, vs', n', rfl, mm, o, r, z⟩ := rv.tup_e
    obtain ⟨n1, n2⟩ := names_each (env := cenv) hn
    refine unpackN_ (s := ⟨h, Z.g, Z.d, tk, Z.os⟩) c.S.F c.S.N (c.S.N.isTup mm) hd (by rw [n1, hlen, List.size_toArray, r.length]) (List.findIdx?_eq_none_iff.mpr n2) fun h' F' N' => ?_
    exact storesC hk hl ts ⟨c.S.frame F' N', c.ns, c.r, c.ex, c.fr⟩ hn hloc nd hlen r fun h₂ tk₂ news₂ o₂ m₂ c₂ k₂ f₂ g₂ => q _ _ _ _ _ c₂ k₂ f₂
end
end Mine
end

section
open PySem PySem.W PyProof.Rows
namespace Mine
set_option tactic.hygienic false
theorem range_small (a b : Nat) (ha : a <= 4096) (hb : b <= 4096) : Builtin.Range.small (.ofNat a) (.ofNat b) 1 = true := by
  have hs := rangeSize_nat (.ofNat a) (.ofNat b)
  unfold Builtin.Range.small
  rw [hs]
  have hn : ((Int.ofNat b - Int.ofNat a).toNat : Int) <= 4096 := by simp only [Int.ofNat_eq_natCast]; omega
  have f : ∀ x : Int, 0 <= x -> x <= 4096 -> Builtin.Range.rangeFitsLong x = true := fun x h1 h2 => by
    unfold Builtin.Range.rangeFitsLong
    simp only [Bool.and_eq_true, decide_eq_true_eq]
    omega
  have fa : Builtin.Range.rangeFitsLong (Int.ofNat a) = true := f _ (Int.natCast_nonneg a) (by simp only [Int.ofNat_eq_natCast]; omega)
  have fb : Builtin.Range.rangeFitsLong (Int.ofNat b) = true := f _ (Int.natCast_nonneg b) (by simp only [Int.ofNat_eq_natCast]; omega)
  have e : Int.ofNat b + (1 - 1) = Int.ofNat b := by omega
  rw [fa, fb, f 1 (by decide) (by decide), f _ (by omega) hn]
  simp only [show (1 : Int) > 0 from by decide, if_true, e, fb]
  simp
theorem VRs.at_ {CA : ClsAt} {FX : Fix} {news : Led} {φ H : List Addr} {vs : List Value} {l : List V} (r : VRs CA FX news φ H vs l) {i : Nat} {x : V} {v : Value} (hx : l[i]? = some x) (hv : vs.toArray[i]? = some v) : VR CA FX news φ H v x := by
  obtain ⟨v', hv', rv⟩ := r.get hx
  rw [List.getElem?_toArray] at hv
  exact Option.some.inj (hv'.symm.trans hv) ▸ rv
theorem intsL_len : ∀ (a : Int) (n : Nat), (intsL a n).length = n
  | _, 0 => rfl
  | a, n + 1 => by simp [intsL, intsL_len]
theorem range_obj (a b : Nat) : ({ cls := .type "range_iterator", data := .fields #[rawInt (.ofNat a), rawInt (Builtin.Range.rangeSize (.ofNat a) (.ofNat b) 1), rawInt 1] } : Obj) = { cls := .type "range_iterator", dict := none, data := .fields #[rawInt (Int.ofNat a + (0 : Nat) * 1), rawInt (((intsL (.ofNat a) (b - a)).length : Int) - (0 : Nat)), rawInt 1], slots := #[] } := by
  have this := rangeSize_nat (.ofNat a) (.ofNat b)
  rw [this]
  have e : ((Int.ofNat b - Int.ofNat a).toNat : Int) = (((b - a : Nat) : Int) - ((0 : Nat) : Int)) := by simp only [Int.ofNat_eq_natCast]; omega
  rw [e, intsL_len]
  simp
theorem intsL_get : ∀ (a : Int) (n i : Nat) (x : V), (intsL a n)[i]? = some x -> x = .int (a + (i : Nat) * 1)
  | a, 0, i, x, h => by simp [intsL] at h
  | a, n + 1, 0, x, h => by simp [intsL] at h; rw [<- h]; simp
  | a, n + 1, i + 1, x, h => by
    simp only [intsL, List.getElem?_cons_succ] at h
    rw [intsL_get _ _ _ _ h]
    congr 1
    push_cast
    omega
section
variable {Z : Wd} {n : Nat}
theorem push_it {h₀ h : Heap} {L : Addr} {m : Str -> Option Value} {news : Led} {φ : List Addr} {σ : Hp} (S : SimZ Z h₀ L m h news φ σ) (o : Obj) (hf : o.isFreed = false) :
    SimZ Z h₀ L m (h.push o) ((h.objs.size, o) :: news) φ σ /\ Ext Z.H news φ ((h.objs.size, o) :: news) φ /\ Off φ Z.H h.objs.size := by
  have l : ∀ p ∈ news, p.1 < h.objs.size := fun p hp => Heap.lt_size (S.N p hp).1
  obtain ⟨S', E'⟩ := S.push l (S.F.push o) (S.N.push S.F o hf)
  exact ⟨S', E', off_new S l⟩
end
theorem look_app : ∀ {k1 k2 : List N} {v1 v2 : List V} {x : N} {y : V}, k1.length = v1.length -> look (k1 ++ k2) (v1 ++ v2) x = some y -> look k1 v1 x = some y \/ look k2 v2 x = some y
  | [], k2, [], v2, x, y, _, h => .inr h
  | [], _, _ :: _, _, _, _, hl, _ => by simp at hl
  | _ :: _, _, [], _, _, _, hl, _ => by simp at hl
  | k :: k1, k2, v :: v1, v2, x, y, hl, h => by
    simp only [List.cons_append, look] at h ⊢
    cases q : leq k x with
    | true => rw [q] at h; exact .inl h
    | false => rw [q] at h; exact look_app (by simpa using hl) h
set_option tactic.hygienic true
theorem freeV_look : ∀ {ks : List N} {vs : List V} {fs : List N} {l : List V} {x : N} {y : V}, freeV ks vs fs = some l -> look fs l x = some y -> look ks vs x = some y /\ x ∈ fs
  | ks, vs, [], l, x, y, h, q => by simp only [freeV, Option.some.injEq] at h; subst h; simp [look] at q
  | ks, vs, f :: fs, l, x, y, h, q => by
    simp only [freeV] at h
    split at h
    · rename_i v hv
      split at h
      · rename_i r hr
        cases h
        simp only [look] at q
        cases e : leq f x with
        | true => rw [e] at q; cases q; rw [<- leq_iff.mp e]; exact ⟨hv, .head _⟩
        | false => rw [e] at q; obtain ⟨a, b⟩ := freeV_look hr q; exact ⟨a, .tail _ b⟩
      · cases h
    · cases h
theorem freeV_len : ∀ {ks : List N} {vs : List V} {fs : List N} {l : List V}, freeV ks vs fs = some l -> fs.length = l.length
  | ks, vs, [], l, h => by simp only [freeV, Option.some.injEq] at h; subst h; rfl
  | ks, vs, f :: fs, l, h => by
    simp only [freeV] at h
    split at h
    · split at h
      · rename_i r hr; cases h; simp [freeV_len hr]
      · cases h
    · cases h
set_option tactic.hygienic false
theorem freeK_mem : ∀ {sc : List (Str × NameKind)} {x : N}, x ∈ freeK sc -> ∃ y : Str, y.cps.toList = x /\ (y, NameKind.free) ∈ sc
  | [], x, h => nomatch h
  | (y, k) :: r, x, h => by
    cases k with
    | free =>
      rcases List.mem_cons.mp h with rfl | h
      · exact ⟨y, rfl, .head _⟩
      · obtain ⟨z, a, b⟩ := freeK_mem h; exact ⟨z, a, .tail _ b⟩
    | _ => obtain ⟨z, a, b⟩ := freeK_mem (sc := r) h; exact ⟨z, a, .tail _ b⟩
theorem freeK_of : ∀ {sc : List (Str × NameKind)} {x : Str}, (x, NameKind.free) ∈ sc -> x.cps.toList ∈ freeK sc
  | (y, k) :: r, x, h => by
    rcases List.mem_cons.mp h with e | h
    · cases e; exact .head _
    · have ih := freeK_of h
      cases k <;> first | exact ih | exact .tail _ ih
set_option tactic.hygienic true
theorem allLoc_mem : ∀ {sc : List (Str × NameKind)} {l : List N} {x : N}, allLoc sc l = true -> x ∈ l -> isLoc sc x = true
  | _, [], _, _, h => nomatch h
  | sc, y :: r, x, h, hx => by
    unfold allLoc at h
    split at h
    · rename_i q
      rcases List.mem_cons.mp hx with rfl | hx
      · exact q
      · exact allLoc_mem h hx
    · cases h
theorem noLoc_mem : ∀ {sc : List (Str × NameKind)} {l : List N} {x : N}, noLoc sc l = true -> x ∈ l -> isLoc1 sc x = false
  | _, [], _, _, h => nomatch h
  | sc, y :: r, x, h, hx => by
    unfold noLoc at h
    split at h
    · cases h
    · rename_i q
      rcases List.mem_cons.mp hx with rfl | hx
      · exact q
      · exact noLoc_mem h hx
set_option tactic.hygienic false
theorem scpOk_cell : ∀ {sc : List (Str × NameKind)}, scpOk sc = true -> ∀ x ∈ sc, x.2 ≠ .cell
  | [], _, x, h => nomatch h
  | (y, k) :: r, h, x, hx => by
    unfold scpOk at h
    rcases List.mem_cons.mp hx with rfl | hx
    · intro e
      simp only at e
      subst e
      cases h
    · refine scpOk_cell (sc := r) ?_ x hx
      split at h
      · cases h
      · exact h
set_option tactic.hygienic true
theorem once_lookup : ∀ {sc : List (Str × NameKind)}, scpOnce sc = true -> ∀ x ∈ sc, sc.lookup x.1 = some x.2
  | [], _, x, h => nomatch h
  | (y, k) :: r, h, x, hx => by
    unfold scpOnce at h
    split at h
    · cases h
    · rename_i q
      rcases List.mem_cons.mp hx with rfl | hx
      · simp [List.lookup_cons]
      · have hne : (x.1 == y) = false := by
          rw [beq_eq_false_iff_ne]
          intro e
          have : memN (r.map fun y => y.1.cps.toList) y.cps.toList = true := memN_iff.mpr (List.mem_map.mpr ⟨x, hx, by rw [e]⟩)
          rw [this] at q; cases q
        rw [List.lookup_cons, hne]
        exact once_lookup h x hx
set_option tactic.hygienic false
theorem closure_ok {env : PySem.Env} : ∀ (names : List (Str × NameKind)) (acc : List (Str × Addr)), (∀ x, (x, NameKind.free) ∈ names -> ∃ c, env.cells.lookup x = some c) -> (∀ x c, (acc.lookup x = some c -> env.cells.lookup x = some c)) ->
    ∃ cl, (forIn names acc (fun (x : Str × NameKind) (cs : List (Str × Addr)) => (if (x.2 == NameKind.free) = true then do let a <- cellOf env x.1; pure (ForInStep.yield ((x.1, a) :: cs)) else pure (ForInStep.yield cs) : Sem (ForInStep (List (Str × Addr))))) : Sem (List (Str × Addr))) = pure cl /\
      (∀ x c, cl.lookup x = some c -> env.cells.lookup x = some c) /\ (∀ x, (x, NameKind.free) ∈ names -> (cl.lookup x).isSome = true) /\ ∀ x, (acc.lookup x).isSome = true -> (cl.lookup x).isSome = true
  | [], acc, h, ha => ⟨acc, rfl, ha, fun _ q => (nomatch q), fun _ q => q⟩
  | (y, k) :: r, acc, h, ha => by
    by_cases hk : k = .free
    · subst hk
      obtain ⟨c, hc⟩ := h y (.head _)
      obtain ⟨cl, e1, e2, e3, e4⟩ := closure_ok (env := env) r ((y, c) :: acc) (fun x hx => h x (.tail _ hx)) (fun x c' q => by
        rw [List.lookup_cons] at q
        by_cases hx : (x == y) = true
        · rw [hx] at q; cases q; rw [beq_iff_eq.mp hx]; exact hc
        · have : (x == y) = false := by simpa using hx
          rw [this] at q; exact ha x c' q)
      refine ⟨cl, ?_, e2, fun x hx => ?_, ?_⟩
      · rw [List.forIn_cons]
        have e : cellOf env y = pure c := by unfold cellOf; rw [hc]
        simp only [beq_self_eq_true, if_true, e]
        exact e1
      · rcases List.mem_cons.mp hx with e | hx
        · cases e
          refine e4 _ ?_
          simp [List.lookup_cons]
        · exact e3 x hx
      · intro x q
        refine e4 x ?_
        rw [List.lookup_cons]
        by_cases hx : (x == y) = true
        · rw [hx]; rfl
        · have : (x == y) = false := by simpa using hx
          rw [this]; exact q
    · have hb : (k == NameKind.free) = false := by simpa using hk
      obtain ⟨cl, e1, e2, e3, e4⟩ := closure_ok (env := env) r acc (fun x hx => h x (.tail _ hx)) ha
      refine ⟨cl, ?_, e2, fun x hx => ?_, e4⟩
      · rw [List.forIn_cons]
        simp only [hb, Bool.false_eq_true, if_false]
        exact e1
      · rcases List.mem_cons.mp hx with e | hx
        · cases e; exact absurd rfl hk
        · exact e3 x hx
end Mine
end

section
open PySem PySem.W PyProof.Rows
namespace Mine
section
variable {Z : Wd} {n : Nat}
noncomputable abbrev compBd (T : Tab) (n : Nat) (fn : N) (sc : List (Str × NameKind)) (elt t : PySem.Expr) (tks : List N) (fvs : List V) : V -> (V -> Prop) -> Prop := fun v K =>
  oP (fun tvs => ifB (Nat.beq tks.length tvs.length) (evE T n elt ⟨fn, sc, tks ++ freeK sc, tvs ++ fvs⟩ [] (fun y σ' => nilP σ' (K y)) (fun _ _ => False))) (tvals t v)
noncomputable def CellAt (Z : Wd) (look : Str -> Option Addr) (news : Led) (x : Str) (v : V) : Prop := (x == ("__classdict__" : Str)) = false /\ ∃ c o w, look x = some c /\ (c, o) ∈ news /\ c ∉ Z.H /\ o.data = .cell (some w) /\ VRZ Z news [] w v
noncomputable def FreeC (Z : Wd) (env : PySem.Env) (scope : Scope) (cl : List (Str × Addr)) (fvs : List V) (Ca : Addr) (news : Led) : Prop := ∀ (x : Str) (v : V), look (freeK scope.names) fvs x.cps.toList = some v ->
  (x == ("__debug__" : Str)) = false /\ ((compEnvC scope cl Ca env).kindOf x = some .cell \/ (compEnvC scope cl Ca env).kindOf x = some .free) /\ CellAt Z (fun x => cl.lookup x) news x v
inductive InvC (Z : Wd) (h₀ : Heap) (L : Addr) (m : Str -> Option Value) (news₀ : Led) (I Ca D : Addr) (l : List V) (StO : Nat -> Obj -> Prop) (bd : V -> (V -> Prop) -> Prop) (P' : List V -> Prop) (k : Nat) (s : Shared) : Prop
  | mk (i : Nat) (h : Heap) (tk : Nat) (news : Led) (oI oC : Obj) (mC : Str -> Option Value) (vs : List Value) (nD : Nat) (acc : List V) : s = (⟨h, Z.g, Z.d, tk, Z.os⟩ : Shared) -> k = l.length - i -> i <= l.length -> acc.length = i -> CI Z h₀ L m news₀ I Ca D oI oC mC vs nD acc h news -> StO i oI ->
    compL bd (l.drop i) acc P' -> InvC Z h₀ L m news₀ I Ca D l StO bd P' k s
set_option tactic.hygienic false
theorem comp_loop (ihp : ∀ pin H, OK (Z.pinned pin H) n) {A : Around} {env top : PySem.Env} {outer : List PySem.Env} {h₀ : Heap} {L : Addr} {sc₀ : List (Str × NameKind)} {scope : Scope} {cl : List (Str × Addr)} {t elt it : PySem.Expr} {pos : Pos} {I Ca D : Addr} {l : List V} {news₀ : Led} {m : Str -> Option Value}
    {side : Heap -> Prop} {StO : Nat -> Obj -> Prop} {Pv : Nat -> Value -> Prop} {tks : List N} {fvs : List V} {fn : N} {P' : List V -> Prop} {R : Result -> Shared -> Prop}
    (Cx0 : CxZ Z A env top outer h₀ L sc₀ n) (hk : scope.kind = .function) (T : Turns Z A I l.length side StO Pv) (hlen : l.length <= 4096)
    (hside : ∀ h news, News h₀ L h news -> (∀ p ∈ news₀, p.1 ∉ Z.H -> p ∈ news) -> side h)
    (hV : ∀ i v x, Pv i v -> l[i]? = some x -> VRZ Z news₀ [] v x)
    (ht : tgts t = some tks) (hl : allLoc scope.names tks = true) (hnd : tks.Nodup) (hfl : (freeK scope.names).length = fvs.length)
    (free : FreeC Z env scope cl fvs Ca news₀)
    (hend : ∀ oI oC mC vs nD acc h news tk, CI Z h₀ L m news₀ I Ca D oI oC mC vs nD acc h news -> acc.length <= 4096 -> P' acc -> R (.ok .next) ⟨h, Z.g, Z.d, tk, Z.os⟩)
    {oI oC : Obj} {mC : Str -> Option Value} {nD : Nat} {h : Heap} {news : Led} {tk : Nat} (c : CI Z h₀ L m news₀ I Ca D oI oC mC [] nD [] h news) (st : StO 0 oI)
    (hw : compL (compBd Z.T n fn scope.names elt t tks fvs) l [] P') :
    codeAny (model Z.prog Z.w) A (.compLoop (.ListComp elt [⟨t, it, [], 0⟩] scope pos) 0 (.ref I) (.ref D) (compEnvC scope cl Ca env)) R ⟨h, Z.g, Z.d, tk, Z.os⟩ := by
  have eg := compEnv_good Cx0.env_ (scope := scope) hk cl Ca
  refine kcp_loop (InvC Z h₀ L m news₀ I Ca D l StO (compBd Z.T n fn scope.names elt t tks fvs) P') (fun k s hI => ?_) (l.length - 0) ⟨0, h, tk, news, oI, oC, mC, [], nD, [], rfl, rfl, Nat.zero_le _, rfl, c, st, hw⟩
  obtain ⟨i, h, tk, news, oI, oC, mC, vs, nD, acc, rfl, rfl, hi, hacc, c, st, hw⟩ := hI
  by_cases hlt : i < l.length
  · have hx : l[i]? = some l[i] := List.getElem?_eq_getElem hlt
    rw [drop_cons hx] at hw
    have hw : compBd Z.T n fn scope.names elt t tks fvs l[i] fun y => compL (compBd Z.T n fn scope.names elt t tks fvs) (l.drop (i + 1)) (acc ++ [y]) P' := hw
    refine T.item (s := ⟨h, Z.g, Z.d, tk, Z.os⟩) i oI hlt (hside _ _ c.S.N c.ex) (c.S.N.get c.mem.1) st fun v h' tk' o' hv hkp ho st' => ?_
    obtain ⟨c1, k1⟩ := c.setI hkp ho
    refine T.own (s := ⟨h', Z.g, Z.d, tk', Z.os⟩) (i + 1) i o' t v hv ho st' ?_
    have up : ∀ {oI oC mC vs nD acc h news}, CI Z h₀ L m news₀ I Ca D oI oC mC vs nD acc h news -> Re (FX0 Z.prog Z.w Z.pin) (FX0 Z.prog Z.w (pinL Z I Ca D oI oC vs nD)) news₀ news [] [] Z.H (Z.H ++ [I, Ca, D]) := fun {oI oC mC vs nD acc h news} c =>
      ⟨rfl, rfl, fun _ _ e => e, fun p hp o => ⟨c.ex p hp o.2, ⟨o.1, c.off hp o.2⟩⟩, fun a e => by
        cases hZ : Z.H with
        | nil => rw [hZ] at e; simp at e
        | cons b r => rw [hZ] at e; simpa using e⟩
    have rv1 : VRZ (ZP Z I Ca D o' oC vs nD) (updL I o' news) [] v l[i] := VR.re (up c1) (hV i v _ hv hx)
    obtain ⟨tvs, htv, hw⟩ := oP_e hw
    obtain ⟨hb, hw⟩ := ifB_e hw
    have hb := Nat.eq_of_beq_eq_true hb
    refine assignC Cx0.hd hk rfl c1 ht (fun x hx => (eg.locOk (allLoc_mem hl hx)).1) hnd htv hb rv1 fun h₂ tk₂ news₂ oC₂ mC₂ c2 k2 f2 => ?_
    have C2 : CxZ (ZP Z I Ca D o' oC₂ vs nD) A (compEnvC scope cl Ca env) top outer h₀ L scope.names n := ⟨eg, Cx0.tf, Cx0.tk, Cx0.below, Cx0.fr, Cx0.X, Cx0.T, Cx0.hd, Cx0.dep, Cx0.un, Cx0.fz⟩
    have O2 : LO (ZP Z I Ca D o' oC₂ vs nD) (compEnvC scope cl Ca env) L news₂ [] m ⟨fn, scope.names, tks ++ freeK scope.names, tvs ++ fvs⟩ := ⟨fun x v e => by
      rcases look_app hb e with e | e
      · obtain ⟨u, hu, ru⟩ := f2 x v e
        have hloc := eg.locOk (allLoc_mem hl (look_key e))
        exact ⟨hloc.2, .own (oC := oC₂) hloc.1 (by show (Ca, oC₂) ∈ pinL Z I Ca D o' oC₂ vs nD; simp [pinL]) c2.ns hu ru⟩
      · obtain ⟨d1, d2, d3, cc, o, w, e1, e2, e3, e5, e6⟩ := free x v e
        exact ⟨d1, .cel d2 d3 e1 (c2.ex _ e2 e3) ⟨(fun q => nomatch q), c2.off e2 e3⟩ e5 (VR.re (up c2) e6)⟩, by simp [hb, hfl]⟩
    refine (ihp (pinL Z I Ca D o' oC₂ vs nD) (Z.H ++ [I, Ca, D])).e elt ⟨fn, scope.names, tks ++ freeK scope.names, tvs ++ fvs⟩ [] _ (fun _ _ => False) C2 c2.S O2 hw (fun y σ' p u h₃ tk₃ news₃ φ₃ S₃ E₃ r₃ => ?_) (fun _ _ x => x.elim)
    obtain ⟨rfl, p⟩ := nilP_e p
    obtain rfl : φ₃ = [] := List.length_eq_zero_iff.mp S₃.φl
    have k3 : ∀ p ∈ news₂, p.1 ∉ Z.H ++ [I, Ca, D] -> p ∈ news₃ := fun p hp hn => (E₃.keep p hp (fun q => nomatch q) hn).1
    have c3 : CI Z h₀ L m news₀ I Ca D o' oC₂ mC₂ vs nD acc h₃ news₃ := ⟨S₃, c2.ns, VRs.re (re_pin k3) c2.r, fun p hp hn => k3 p (c2.ex p hp hn) (c2.off hp hn), c2.fr⟩
    have hvl : vs.length = acc.length := c3.r.length
    refine append_K (s := ⟨h₃, Z.g, Z.d, tk₃, Z.os⟩) S₃.F S₃.N (updL_upd S₃.nd c3.mem.2.2) (fun h' F' N' => ?_) (by simp only [List.size_toArray]; exact Nat.le_trans (show vs.length <= 4096 by omega) line_le)
    have e : (List.toArray vs).push u = (vs ++ [u]).toArray := by simp
    rw [e] at N'
    have c4 := c3.setD r₃ F' N'
    exact ⟨l.length - (i + 1), by omega, i + 1, h', tk₃, _, o', oC₂, mC₂, vs ++ [u], nD + 1, acc ++ [y], rfl, rfl, hlt, by simp [hacc], c4, st', p⟩
  · have hin : i = l.length := by omega
    subst hin
    rw [List.drop_length] at hw
    refine T.done (s := ⟨h, Z.g, Z.d, tk, Z.os⟩) oI (hside _ _ c.S.N c.ex) (c.S.N.get c.mem.1) st fun h' tk' o' hkp ho => ?_
    obtain ⟨c1, k1⟩ := c.setI hkp ho
    exact hend _ _ _ _ _ _ _ _ _ c1 (by omega) hw
noncomputable def dropL (a : Addr) (news : Led) : Led := news.filter fun p => !(Nat.beq p.1 a)
theorem dropL_mem {a : Addr} {news : Led} {p : Addr × Obj} : p ∈ dropL a news ↔ p ∈ news /\ p.1 ≠ a := by
  unfold dropL
  rw [List.mem_filter]
  constructor
  · rintro ⟨h1, h2⟩
    refine ⟨h1, fun e => ?_⟩
    have : Nat.beq p.1 a = true := Nat.beq_eq.mpr e
    rw [this] at h2; cases h2
  · rintro ⟨h1, h2⟩
    refine ⟨h1, ?_⟩
    cases q : Nat.beq p.1 a with
    | false => rfl
    | true => exact absurd (Nat.eq_of_beq_eq_true q) h2
theorem CI.end_ {h₀ h h' : Heap} {L : Addr} {m : Str -> Option Value} {news₀ news : Led} {I C D : Addr} {oI oC : Obj} {mC : Str -> Option Value} {vs : List Value} {nD : Nat} {acc : List V} (c : CI Z h₀ L m news₀ I C D oI oC mC vs nD acc h news) (hf : ∃ (fa ca : Addr), Z.H = fa :: ca :: Z.pin.map (·.1))
    (hl : acc.length <= 4096) (hs : Heap.SameBut C h h') :
    SimZ Z h₀ L m h' (dropL C news) [] [] /\ Ext Z.H news₀ [] (dropL C news) [] /\ VRZ Z (dropL C news) [] (.ref D) (.vls acc) := by
  have NC := c.S.N _ c.mem.2.1
  have fd : FeedOk (pinL Z I C D oI oC vs nD) (Z.H ++ [I, C, D]) news := c.S.fd
  have nd3 := pin3 c.nd
  obtain ⟨fa, ca, hZ⟩ := hf
  have ndH : (Z.H ++ [I, C, D]).Nodup := fd.pin_in.2
  rw [List.nodup_append] at ndH
  obtain ⟨nH, _, dis⟩ := ndH
  have offH : ∀ a ∈ Z.H, a ≠ I /\ a ≠ C /\ a ≠ D := fun a ha => ⟨dis a ha _ (.head _), dis a ha _ (.tail _ (.head _)), dis a ha _ (.tail _ (.tail _ (.head _)))⟩
  have F' : Fr h₀ L h' m := ⟨c.S.F.ns.at' fun ob e => (hs.2 _ (Ne.symm NC.2.1)).trans e, fun b ob e => (hs.2 b (fun q => by have := NC.2.2; simp only at this; rw [<- q, e] at this; cases this)).trans (c.S.F.keep b ob e), c.S.F.above⟩
  have N' : News h₀ L h' (dropL C news) := fun p hp => by
    obtain ⟨h1, h2⟩ := dropL_mem.mp hp
    exact ⟨(hs.2 _ h2).trans (c.S.N p h1).1, (c.S.N p h1).2⟩
  refine ⟨⟨F', N', ?_, List.nodup_nil, rfl, fun _ q => (nomatch q), fun i ob e => by simp at e, ?_⟩, ⟨⟨[], rfl⟩, fun p hp h1 h2 => ⟨dropL_mem.mpr ⟨c.ex p hp h2, fun e => c.fr p hp (by simp [e])⟩, h1⟩⟩, ?_⟩
  · have := c.S.nd
    unfold dropL
    exact this.sublist (List.filter_sublist.map _)
  · show FeedOk Z.pin Z.H (dropL C news)
    obtain ⟨fa', ca', x, y, tx, ty, n, us, is, n', e, nd, mp, m1, m2, r1, r2, r3, r4⟩ := fd
    rw [hZ] at e
    simp only [pinL, List.cons_append, List.cons.injEq] at e
    obtain ⟨rfl, rfl, _⟩ := e
    refine ⟨fa, ca, x, y, tx, ty, n, us, is, n', hZ, nH, fun p hp => dropL_mem.mpr ⟨mp p (by simp [pinL, hp]), (nd3.1 p hp).2.1⟩, dropL_mem.mpr ⟨m1, (offH fa (by rw [hZ]; simp)).2.1⟩, dropL_mem.mpr ⟨m2, (offH ca (by rw [hZ]; simp)).2.1⟩, r1, r2, r3, r4⟩
  · have re : Re (FX0 Z.prog Z.w (pinL Z I C D oI oC vs nD)) (FX0 Z.prog Z.w Z.pin) news (dropL C news) [] [] (Z.H ++ [I, C, D]) Z.H :=
      ⟨rfl, rfl, fun _ _ e => e, fun p hp o => ⟨dropL_mem.mpr ⟨hp, fun e => o.2 (by simp [e])⟩, ⟨o.1, fun q => o.2 (List.mem_append_left _ q)⟩⟩, fun a e => by rw [hZ] at e ⊢; simpa using e⟩
    exact .vls (dropL_mem.mpr ⟨c.mem.2.2, nd3.2.2.2.symm⟩) ⟨(fun q => nomatch q), fun q => (offH D q).2.2 rfl⟩ (VRs.re re c.r) hl
end
end Mine
end

section
open PySem PySem.W PyProof.Rows
namespace Mine
section
variable {Z : Wd} {n : Nat}
theorem freeV_some : ∀ {ks : List N} {vs : List V} {fs : List N} {l : List V} {x : N}, freeV ks vs fs = some l -> x ∈ fs -> ∃ v, look ks vs x = some v
  | ks, vs, [], l, x, h, hx => nomatch hx
  | ks, vs, f :: fs, l, x, h, hx => by
    simp only [freeV] at h
    split at h
    · rename_i v hv
      split at h
      · rename_i r hr
        rcases List.mem_cons.mp hx with e | hx
        · rw [e]; exact ⟨v, hv⟩
        · exact freeV_some hr hx
      · cases h
    · cases h
set_option tactic.hygienic false
theorem comp_from (ihp : ∀ pin H, OK (Z.pinned pin H) n) {A : Around} {env top : PySem.Env} {outer : List PySem.Env} {h₀ : Heap} {L : Addr} {ρ : Mine.Env} {scope : Scope} {cl : List (Str × Addr)} {t elt it : PySem.Expr} {pos : Pos} {I : Addr} {l : List V} {news₁ : Led} {m : Str -> Option Value}
    {side : Heap -> Prop} {StO : Nat -> Obj -> Prop} {Pv : Nat -> Value -> Prop} {tks : List N} {fvs : List V} {P : V -> Hp -> Prop} {Q E : Value -> Shared -> Prop} {h₂ : Heap} {tk : Nat} {oI : Obj} {news : Led}
    (C : CxZ Z A env top outer h₀ L ρ.sc n) (hk : scope.kind = .function) (hcell : ∀ x ∈ scope.names, x.2 ≠ .cell) (T : Turns Z A I l.length side StO Pv) (hlen : l.length <= 4096)
    (S₂ : SimZ Z h₀ L m h₂ ((I, oI) :: news₁) [] []) (hI : ∀ p ∈ news₁, p.1 ≠ I) (offI : Off [] Z.H I) (ex : Ext Z.H news [] news₁ [])
    (hside : ∀ h news, News h₀ L h news -> (∀ p ∈ news₁, p.1 ∉ Z.H -> p ∈ news) -> side h)
    (hV : ∀ i v x, Pv i v -> l[i]? = some x -> VRZ Z news₁ [] v x)
    (hself : ∀ {h : Heap} {o : Obj} {tk : Nat} {Q' : Value -> Shared -> Prop} {E' : Value -> Shared -> Prop}, h.get? I = some o -> StO 0 o -> Q' (.ref I) ⟨h, Z.g, Z.d, tk, Z.os⟩ -> wpAny (model Z.prog Z.w) A (pyIter (.ref I)) Q' E' ⟨h, Z.g, Z.d, tk, Z.os⟩)
    (ht : tgts t = some tks) (hl : allLoc scope.names tks = true) (hnd : tks.Nodup) (hfl : (freeK scope.names).length = fvs.length)
    (free : ∀ Ca, FreeC Z env scope cl fvs Ca news₁)
    (st : StO 0 oI) (hw : compL (compBd Z.T n ρ.fn scope.names elt t tks fvs) l [] fun ys => P (.vls ys) []) (hK : KE Z h₀ L m news [] P Q) :
    wpAny (model Z.prog Z.w) A (newList []) (fun acc s₃ => wpAny (model Z.prog Z.w) A (newFunctionEnv scope env.globals cl [] env.qual none .none (some env)) (fun cenv s₄ =>
      codeAny (model Z.prog Z.w) A (.compStart (.ListComp elt [⟨t, it, [], 0⟩] scope pos) 0 (.ref I) acc { cenv with scope := relabel scope env }) (compPost (model Z.prog Z.w) A E none Q acc cenv.locals) s₄) E s₃) E ⟨h₂, Z.g, Z.d, tk, Z.os⟩ := by
  refine newList_K (s := ⟨h₂, Z.g, Z.d, tk, Z.os⟩) S₂.F S₂.N (fun D h₃ F₃ N₃ hfD => ?_) (by simp)
  obtain ⟨S₃, E₃⟩ := S₂.push hfD F₃ N₃
  refine wpAny_newFunctionEnv (s := ⟨h₃, Z.g, Z.d, tk, Z.os⟩) hcell (by intro y hy; simp at hy) (fun h₄ hns hsb => ?_) hk
  dsimp only at hns hsb ⊢
  have hDI : D ≠ I := fun e => Nat.lt_irrefl _ (e ▸ hfD _ (.head _))
  have lt3 : ∀ p ∈ (D, listOf (List.toArray []) 0) :: (I, oI) :: news₁, p.1 < h₃.objs.size := fun p hp => Heap.lt_size (S₃.N p hp).1
  obtain ⟨oC, hoC, hnC⟩ := LCg.ns_obj hns
  have keepC : ∀ b o, h₃.get? b = some o -> h₄.get? b = some o := fun b o e => (hsb.2 b (Nat.ne_of_lt (Heap.lt_size e))).trans (Heap.get?_push_of_some _ e)
  have hC0 : h₀.get? h₃.objs.size = none := by
    cases e : h₀.get? h₃.objs.size with
    | none => rfl
    | some o => exact absurd (Heap.lt_size (S₃.F.keep _ _ e)) (Nat.lt_irrefl _)
  have F₄ : Fr h₀ L h₄ m := ⟨S₃.F.ns.at' fun ob e => keepC _ ob e, fun b ob e => keepC b ob (S₃.F.keep b ob e), S₃.F.above⟩
  have N₄ : News h₀ L h₄ ((h₃.objs.size, oC) :: (D, listOf (List.toArray []) 0) :: (I, oI) :: news₁) := fun p hp => by
    rcases List.mem_cons.mp hp with rfl | hp
    · exact ⟨hoC, Nat.ne_of_gt S₃.F.ns.lt, hC0⟩
    · exact ⟨keepC _ _ (S₃.N p hp).1, (S₃.N p hp).2⟩
  obtain ⟨S₄, E₄⟩ := S₃.push lt3 F₄ N₄
  have fd : FeedOk Z.pin Z.H ((h₃.objs.size, oC) :: (D, listOf (List.toArray []) 0) :: (I, oI) :: news₁) := S₄.fd
  have offD : D ∉ Z.H := S₂.fd.no hfD
  have offC : h₃.objs.size ∉ Z.H := S₃.fd.no lt3
  have hCD : h₃.objs.size ≠ D := fun e => Nat.lt_irrefl _ (e ▸ lt3 _ (.head _))
  have hCI : h₃.objs.size ≠ I := fun e => Nat.lt_irrefl _ (e ▸ lt3 _ (.tail _ (.head _)))
  have hZ : ∃ (fa ca : Addr), Z.H = fa :: ca :: Z.pin.map (·.1) := fd.two
  have fr : ∀ p ∈ news₁, p.1 ∉ [I, h₃.objs.size, D] := fun p hp q => by
    simp only [List.mem_cons, List.not_mem_nil, or_false] at q
    rcases q with q | q | q
    · exact hI p hp q
    · exact Nat.lt_irrefl _ (q ▸ lt3 p (.tail _ (.tail _ hp)))
    · exact Nat.lt_irrefl _ (q ▸ hfD p (.tail _ hp))
  have c0 : CI Z h₀ L m news₁ I h₃.objs.size D oI oC (fun x => ([] : List (Str × Value)).reverse.lookup x) [] 0 [] h₄ ((h₃.objs.size, oC) :: (D, listOf (List.toArray []) 0) :: (I, oI) :: news₁) := by
    refine ⟨⟨S₄.F, S₄.N, S₄.nd, List.nodup_nil, rfl, fun _ q => (nomatch q), fun i ob e => by simp at e, ?_⟩, hnC, .nil, fun p hp _ => .tail _ (.tail _ (.tail _ hp)), fr⟩
    obtain ⟨fa, ca, x, y, tx, ty, n, us, is, n', e, nd, mp, r1, r2, r3, r4, r5, r6⟩ := fd
    refine ⟨fa, ca, x, y, tx, ty, n, us, is, n', by show Z.H ++ [I, h₃.objs.size, D] = fa :: ca :: (Z.pin ++ [(I, oI), (h₃.objs.size, oC), (D, listOf (List.toArray []) 0)]).map (·.1); rw [e]; simp, ?_, fun p hp => ?_, r1, r2, r3, r4, r5, r6⟩
    · show (Z.H ++ [I, h₃.objs.size, D]).Nodup
      rw [List.nodup_append]
      refine ⟨nd, by simp [hCI.symm, hDI.symm, hCD], fun a ha b hb e => ?_⟩
      subst e
      simp only [List.mem_cons, List.not_mem_nil, or_false] at hb
      rcases hb with rfl | rfl | rfl
      · exact offI.2 ha
      · exact offC ha
      · exact offD ha
    · rcases List.mem_append.mp hp with hp | hp
      · exact mp p hp
      · simp only [List.mem_cons, List.not_mem_nil, or_false] at hp
        rcases hp with rfl | rfl | rfl <;> simp
  have go : ∀ tk', codeAny (model Z.prog Z.w) A (.compLoop (.ListComp elt [⟨t, it, [], 0⟩] scope pos) 0 (.ref I) (.ref D) (compEnvC scope cl h₃.objs.size env)) (compPost (model Z.prog Z.w) A E none Q (.ref D) h₃.objs.size) ⟨h₄, Z.g, Z.d, tk', Z.os⟩ := fun tk' =>
    comp_loop ihp C hk T hlen hside hV ht hl hnd hfl (free _) (fun oI' oC' mC' vs nD acc h' news' tk₂ c hacc p => by
      refine ⟨mC', c.ns.ns (c.S.N.get c.mem.2.1), fun h'' hs => ?_⟩
      obtain ⟨S', E', r'⟩ := c.end_ hZ hacc hs
      exact hK _ _ p _ _ _ _ _ S' (ex.trans E') r') c0 st hw
  exact codeAny_compStart_list (go _) (hself (h := h₄) (keepC _ _ (S₃.N.get (.tail _ (.head _)))) st (go _))
theorem comp_cells {env : PySem.Env} {L : Addr} {news : Led} {m : Str -> Option Value} {ρ : Mine.Env} {scope : Scope} {fvs : List V} (ho : EnvG env L ρ.sc) (O : LO Z env L news [] m ρ)
    (hno : noLoc ρ.sc (freeK scope.names) = true) (hfv : freeV ρ.ks ρ.vs (freeK scope.names) = some fvs) {x : Str} (hx : x.cps.toList ∈ freeK scope.names) :
    ∃ v, look ρ.ks ρ.vs x.cps.toList = some v /\ (x == ("__debug__" : Str)) = false /\ (env.kindOf x = some .cell \/ env.kindOf x = some .free) /\ CellAt Z (fun x => env.cells.lookup x) news x v := by
  obtain ⟨v, hv⟩ := freeV_some hfv hx
  obtain ⟨hd, k⟩ := O.at_ x v hv
  have hnl : ¬ env.kindOf x = some .local := fun e => Bool.false_ne_true ((noLoc_mem hno hx).symm.trans ((ho.loc x).mpr e))
  cases k with
  | loc a b c r => exact absurd a hnl
  | own a b c d r => exact absurd a hnl
  | cel a b c d o g r => exact ⟨v, hv, hd, a, b, _, _, _, c, d, o.2, g, r⟩
theorem comp_clos {env : PySem.Env} {L : Addr} {news : Led} {m : Str -> Option Value} {ρ : Mine.Env} {scope : Scope} {fvs : List V} (ho : EnvG env L ρ.sc) (O : LO Z env L news [] m ρ)
    (hon : scpOnce scope.names = true) (hno : noLoc ρ.sc (freeK scope.names) = true) (hfv : freeV ρ.ks ρ.vs (freeK scope.names) = some fvs) :
    ∃ cl, closureFor scope env = pure cl /\ ∀ {news₁ : Led}, Ext Z.H news [] news₁ [] -> ∀ Ca, FreeC Z env scope cl fvs Ca news₁ := by
  obtain ⟨cl, hcl, cl1, cl2, -⟩ := closure_ok (env := env) scope.names [] (fun x hx => by
    obtain ⟨_, _, _, _, _, c, _, _, hc, _⟩ := comp_cells ho O hno hfv (freeK_of hx)
    exact ⟨c, hc⟩) (fun x c q => nS q)
  refine ⟨cl, ?_, fun {news₁} e Ca x v hv => ?_⟩
  · unfold closureFor
    simp only [bind_pure] at hcl ⊢
    exact hcl
  · obtain ⟨hv', hm⟩ := freeV_look hfv hv
    obtain ⟨v', h1, h2, h3, h4, c, o, w, h5, h6, h7, h9, h10⟩ := comp_cells ho O hno hfv hm
    obtain rfl := Option.some.inj (hv'.symm.trans h1)
    obtain ⟨y, hy, hyf⟩ := freeK_mem hm
    obtain rfl : y = x := str_ext hy
    refine ⟨h2, ?_, h4, c, o, w, ?_, (e.keep _ h6 (fun q => nomatch q) h7).1, h7, h9, h10.mono e⟩
    · show (relabel scope env).names.lookup y = _ \/ (relabel scope env).names.lookup y = _
      unfold relabel
      simp only
      rw [lookup_relabel, once_lookup hon _ hyf]
      simp only [Option.map_some]
      split
      · exact .inl rfl
      · exact .inr rfl
    · obtain ⟨c', hc'⟩ := Option.isSome_iff_exists.mp (cl2 y hyf)
      exact hc'.trans ((cl1 y c' hc').symm.trans h5)
theorem comp_sound (ih : OK Z n) (ihp : ∀ pin H, OK (Z.pinned pin H) n) {A : Around} {env top : PySem.Env} {outer : List PySem.Env} {h₀ : Heap} {L : Addr} {ρ : Mine.Env} {scope : Scope} {t elt it : PySem.Expr} {pos : Pos} {m : Str -> Option Value}
    {tks : List N} {fvs : List V} {P : V -> Hp -> Prop} {X : List V -> Hp -> Prop} {Q E : Value -> Shared -> Prop} {h : Heap} {tk : Nat} {news : Led} {φ : List Addr}
    (C : CxZ Z A env top outer h₀ L ρ.sc n) (S : SimZ Z h₀ L m h news φ []) (O : LO Z env L news φ m ρ) (hk : scope.kind = .function) (hcell : scpOk scope.names = true) (hon : scpOnce scope.names = true) (hno : noLoc ρ.sc (freeK scope.names) = true)
    (ht : tgts t = some tks) (hl : allLoc scope.names tks = true) (hnd : nodupN tks = true) (hfv : freeV ρ.ks ρ.vs (freeK scope.names) = some fvs)
    (hw : evE Z.T n it ρ [] (fun w σ₁ => nilP σ₁ (oP (fun l => compL (compBd Z.T n ρ.fn scope.names elt t tks fvs) l [] fun ys => P (.vls ys) []) (forItems [] w))) X) (hK : KE Z h₀ L m news φ P Q) (hX : XK Z (top :: outer) news φ X E) :
    wpAny (model Z.prog Z.w) A (eval (.ListComp elt [⟨t, it, [], 0⟩] scope pos) env) Q E ⟨h, Z.g, Z.d, tk, Z.os⟩ := by
  obtain rfl : φ = [] := List.length_eq_zero_iff.mp S.φl
  obtain ⟨cl, hclos, free⟩ := comp_clos C.env_ O hon hno hfv
  have hfl := freeV_len hfv
  have hnd' := nodupN_iff hnd
  rw [eval_ListComp]
  refine wpAny_comprehension_free (use := none) rfl (fun x => folded_ok (evE_set hw) env x) hclos hk (fun x hx hl => by rw [once_lookup hon x hx, hl]) ?_
  show wpAny _ _ (eval it env) _ _ _
  refine ih.e it ρ [] _ X C S O hw (fun w σ₁ p u h₁ tk₁ news₁ φ₁ S₁ E₁ r₁ => ?_) hX
  obtain ⟨rfl, p⟩ := nilP_e p
  obtain rfl : φ₁ = [] := List.length_eq_zero_iff.mp S₁.φl
  obtain ⟨l, hl', p⟩ := oP_e p
  rcases forItems_e hl' with ⟨a, b', rfl, ha, hb, rfl⟩ | rfl
  · obtain ⟨_, _, _, _, rfl, mm, off⟩ := r₁.rng_e
    refine wpAny_pyIter_range (s := ⟨h₁, Z.g, Z.d, tk₁, Z.os⟩) (S₁.N.get mm) (range_small a b' ha hb) ?_
    obtain ⟨S₂, E₂, off₂⟩ := push_it S₁ { cls := .type "range_iterator", data := .fields #[rawInt (.ofNat a), rawInt (Builtin.Range.rangeSize (.ofNat a) (.ofNat b') 1), rawInt 1] } rfl
    refine comp_from ihp C hk (scpOk_cell hcell) (intsL_len (.ofNat a) (b' - a) ▸ turns_range C.hd h₁.objs.size (.ofNat a) (b' - a)) (Nat.le_trans (Nat.le_of_eq (intsL_len _ _)) (Nat.le_trans (Nat.sub_le _ _) hb)) S₂ (fun p hp => Nat.ne_of_lt (Heap.lt_size (S₁.N p hp).1)) off₂ E₁ (fun _ _ _ _ => trivial) (fun i v x hv hx => ?_) (fun {h o tk Q' E'} ho hst hq => ?_) ht hl hnd' hfl (free E₁) (range_obj a b') p hK
    · obtain ⟨t', rfl⟩ := hv
      rw [intsL_get _ _ _ _ hx]
      exact .int _ _
    · subst hst
      exact wpAny_pyIter_rangeiter (s := ⟨h, Z.g, Z.d, tk, Z.os⟩) ho hq
  · obtain ⟨ax, vs, nn, rfl, mm, off, r, z⟩ := r₁.vls_e
    refine wpAny_pyIter_list (s := ⟨h₁, Z.g, Z.d, tk₁, Z.os⟩) (S₁.N.isList mm) ?_
    obtain ⟨S₂, E₂, off₂⟩ := push_it S₁ { cls := .type "list_iterator", data := .fields #[.ref ax, .int 0 0] } rfl
    have hln : vs.toArray.size = l.length := by rw [List.size_toArray, r.length]
    exact comp_from ihp C hk (scpOk_cell hcell) (hln ▸ turns_list C.hd h₁.objs.size ax vs.toArray) z S₂ (fun p hp => Nat.ne_of_lt (Heap.lt_size (S₁.N p hp).1)) off₂ E₁ (fun h' news' N' k => N'.isList (k _ mm off.2)) (fun i v x hv hx => r.at_ hx hv)
      (fun {h o tk Q' E'} ho hst hq => wpAny_pyIter_listiter (s := ⟨h, Z.g, Z.d, tk, Z.os⟩) (i := 0) ⟨o, ho, hst.1, hst.2⟩ hq) ht hl hnd' hfl (free E₁) ⟨rfl, rfl⟩ p hK
end
end Mine
end

section
open PySem PySem.W PyProof.Rows
namespace Mine
section
variable {Z : Wd} {n : Nat}
set_option tactic.hygienic false
theorem okE (W : Wk Z) (ih : OK Z n) (ihp : ∀ pin H, OK (Z.pinned pin H) n) : SE Z (n + 1) := by
  intro A env top outer h₀ L e ρ σ P X h m news φ tk Q E C S O hw hK hX
  have C' := C.down (Nat.le_succ n)
  have hcl : A.units + 64 < cLine := by have := C.un; omega
  have hsm : sysModules < h₀.objs.size := let ⟨_, _, _, T⟩ := C.T; modules_low T.nolimit
  refine evE_cases hw ?_ ?_ ?_ ?_ ?_ ?_ ?_ ?_ ?_ ?_ ?_ ?_ ?_ ?_ ?_ ?_ <;> clear hw
  ·
    intro c k pos v he hv hw
    subst he
    rcases cV_e hv with ⟨rfl, rfl⟩ | ⟨b, rfl, rfl⟩ | ⟨i, rfl, rfl⟩ | ⟨s, rfl, rfl, ok⟩
    · exact Constant_none (hK _ _ hw _ _ _ _ _ S (.refl _ _ _) .none)
    · exact Constant_bool (hK _ _ hw _ _ _ _ _ S (.refl _ _ _) (.bool _))
    · exact wpAny_Constant_int (hK _ _ hw _ _ _ _ _ S (.refl _ _ _) (.int _ _))
    · exact Calls.Constant_str (hK _ _ hw _ _ _ _ _ S (.refl _ _ _) (.str _ _ _ rfl ok))
  ·
    intro x pos v he hv hw
    subst he
    exact name_at C S O hv fun u ru => hK _ _ hw _ _ _ _ _ S (.refl _ _ _) ru
  ·
    intro l op r pos he hw
    subst he
    refine wpAny_BinOp (ih.e _ ρ σ _ X C' S O hw (fun x σ₁ p v h₁ tk₁ news₁ φ₁ S₁ E₁ r₁ => ?_) hX)
    refine ih.e _ ρ σ₁ _ X C' S₁ (O.mono E₁) p (fun y σ₂ p₂ v₂ h₂ tk₂ news₂ φ₂ S₂ E₂ r₂ => ?_) (hX.mono E₁)
    exact binW_rule S₂ (r₁.mono E₂) r₂ p₂ fun z σ₃ p₃ v₃ h₃ tk₃ news₃ φ₃ S₃ E₃ r₃ => hK _ _ p₃ _ _ _ _ _ S₃ ((E₁.trans E₂).trans E₃) r₃
  ·
    intro i k p1 p2 he hw
    subst he
    exact UnaryOp_ (wpAny_Constant_int (neg_int (hK _ _ hw _ _ _ _ _ S (.refl _ _ _) (.int _ _))))
  · intro op es pos he hw
    subst he
    exact ih.bool _ _ _ ρ σ P X C' S O hw hK hX
  ·
    intro c a b pos he hw
    subst he
    refine IfExp_ (ih.b _ ρ σ _ X C' S O hw (fun t σ₁ p h₁ tk₁ news₁ φ₁ S₁ E₁ => ?_) hX)
    cases t with
    | true => exact ih.e _ ρ σ₁ P X C' S₁ (O.mono E₁) p (fun y σ₂ q w h₂ tk₂ news₂ φ₂ S₂ E₂ r₂ => hK _ _ q _ _ _ _ _ S₂ (E₁.trans E₂) r₂) (hX.mono E₁)
    | false => exact ih.e _ ρ σ₁ P X C' S₁ (O.mono E₁) p (fun y σ₂ q w h₂ tk₂ news₂ φ₂ S₂ E₂ r₂ => hK _ _ q _ _ _ _ _ S₂ (E₁.trans E₂) r₂) (hX.mono E₁)
  ·
    intro l op r pos he hset hw
    subst he
    refine wpAny_Compare1 (ih.e _ ρ σ _ X C' S O hw (fun x σ₁ p v h₁ tk₁ news₁ φ₁ S₁ E₁ r₁ => ?_) hX) (marks_ok hset)
    refine ih.e _ ρ σ₁ _ X C' S₁ (O.mono E₁) p (fun y σ₂ p₂ v₂ h₂ tk₂ news₂ φ₂ S₂ E₂ r₂ => ?_) (hX.mono E₁)
    exact cmpW_rule S₂ (r₁.mono E₂) r₂ hcl p₂ fun t ht => hK _ _ ht _ _ _ _ _ S₂ (E₁.trans E₂) (.bool _)
  ·
    intro es k pos he hs hw
    subst he
    refine Tuple_ (ih.es _ _ ρ σ _ X C' S O hs hw (fun xs σ₁ p vs h₁ tk₁ news₁ φ₁ S₁ E₁ r₁ => ?_) hX)
    exact newTup_rule S₁ r₁ p fun z σ₃ p₃ v₃ h₃ tk₃ news₃ φ₃ S₃ E₃ r₃ => hK _ _ p₃ _ _ _ _ _ S₃ (E₁.trans E₃) r₃
  ·
    intro es pos he hs hw
    subst he
    refine List_ (ih.es _ _ ρ σ _ X C' S O hs hw (fun xs σ₁ p vs h₁ tk₁ news₁ φ₁ S₁ E₁ r₁ => ?_) hX)
    exact newLst_rule S₁ r₁ p fun z σ₃ p₃ v₃ h₃ tk₃ news₃ φ₃ S₃ E₃ r₃ => hK _ _ p₃ _ _ _ _ _ S₃ (E₁.trans E₃) r₃
  ·
    intro ks es pos ns vs he hn hv ok hw
    subst he
    exact dct_rule S hsm hn hv ok hw hK
  ·
    intro o f pos he hb hw
    subst he
    refine Attribute_any_ (ih.e _ ρ σ _ X C' S O hw (fun x σ₁ p v h₁ tk₁ news₁ φ₁ S₁ E₁ r₁ => ?_) hX) (by rw [arm_eval_Attribute, attributeBase_ok hb])
    obtain ⟨r, hr, p⟩ := oP_e p
    exact attrG_rule W.kok C.X S₁ r₁ hr p fun z σ₃ p₃ v₃ h₃ tk₃ news₃ φ₃ S₃ E₃ r₃ => hK _ _ p₃ _ _ _ _ _ S₃ (E₁.trans E₃) r₃
  ·
    intro o lo hi ps pos he hw
    subst he
    refine Subscript_ (ih.e _ ρ σ _ X C' S O hw (fun y σ₁ q v h₁ tk₁ news₁ φ₁ S₁ E₁ r₁ => ?_) hX)
    refine wpAny_Slice (ih.o _ ρ σ₁ _ X C' S₁ (O.mono E₁) q (fun y₂ σ₂ q₂ v₂ h₂ tk₂ news₂ φ₂ S₂ E₂ r₂ => ?_) (hX.mono E₁))
    refine ih.o _ ρ σ₂ _ X C' S₂ ((O.mono E₁).mono E₂) q₂ (fun y₃ σ₃ q₃ v₃ h₃ tk₃ news₃ φ₃ S₃ E₃ r₃ => ?_) ((hX.mono E₁).mono E₂)
    refine wpAny_of_eq (evalPart_none env) ?_
    exact sliceW_rule S₃ ((r₁.mono E₂).mono E₃) (r₂.mono E₃) r₃ q₃ fun z σ₄ p₄ v₄ h₄ tk₄ news₄ φ₄ S₄ E₄ r₄ => hK _ _ p₄ _ _ _ _ _ S₄ (((E₁.trans E₂).trans E₃).trans E₄) r₄
  ·
    intro o i pos he hp hw
    subst he
    refine Subscript_ (ih.e _ ρ σ _ X C' S O hw (fun y σ₁ q v h₁ tk₁ news₁ φ₁ S₁ E₁ r₁ => ?_) hX)
    refine ih.e _ ρ σ₁ _ X C' S₁ (O.mono E₁) q (fun y₂ σ₂ q₂ v₂ h₂ tk₂ news₂ φ₂ S₂ E₂ r₂ => ?_) (hX.mono E₁)
    obtain ⟨r, hr, q₂⟩ := oP_e q₂
    refine itemW_rule S₂ (r₁.mono E₂) r₂ hp (fun d' o ks l s y k t mm f sm ek hl hq => ?_) hr q₂ fun z σ₄ p₄ v₄ h₄ tk₄ news₄ φ₄ S₄ E₄ r₄ => hK _ _ p₄ _ _ _ _ _ S₄ ((E₁.trans E₂).trans E₄) r₄
    subst ek
    exact sitem_rule S₂ mm f sm hp hl hq
  ·
    intro elt t it scope pos tks fvs he hc hσ ht hl hfv hw
    subst he
    subst hσ
    simp only [Bool.and_eq_true] at hc hl
    obtain ⟨⟨⟨⟨c1, c2⟩, c3⟩, c4⟩, c5⟩ := hc
    have hk : scope.kind = .function := isFun_e c1
    exact comp_sound ih ihp C' S O hk c2 c3 c5 ht hl.1 hl.2 hfv hw hK hX
  ·
    intro f p e r pos he hg hs hkn hw
    subst he
    obtain ⟨fv, hc⟩ := callee_ex W hkn
    refine Call_ (callee_name W hc C S hg (callee_with hc C.X hs ?_)) (by rfl)
    refine ih.es _ _ ρ σ _ X C' S O hs hw (fun xs σ₁ p vs h₁ tk₁ news₁ φ₁ S₁ E₁ r₁ => ⟨C.X.keeps S₁.F.keep, ?_⟩) hX
    exact ih.f vs xs σ₁ P X hc C' S₁ r₁ p (fun z σ₃ p₃ v₃ h₃ tk₃ news₃ φ₃ S₃ E₃ r₃ => hK _ _ p₃ _ _ _ _ _ S₃ (E₁.trans E₃) r₃) (hX.mono E₁)
  ·
    intro o f ap es cp he hb hs hl hln hw
    subst he
    refine call_method hb hs (Nat.le_of_ble_eq_true hl) (Nat.eq_of_beq_eq_true hln) fun pl => ?_
    refine ih.e _ ρ σ _ X C' S O hw (fun x σ₁ p v h₁ tk₁ news₁ φ₁ S₁ E₁ r₁ => ?_) hX
    obtain ⟨hkm, p⟩ := ifB_e p
    refine meth_get W C S₁ r₁ hkm fun fv first hm => ?_
    refine meth_with hm C.X (C.X.keeps S₁.F.keep) hs ?_
    refine ih.es _ _ ρ σ₁ _ X C' S₁ (O.mono E₁) hs p (fun xs σ₂ p₂ vs h₂ tk₂ news₂ φ₂ S₂ E₂ r₂ => ⟨C.X.keeps S₂.F.keep, ?_⟩) (hX.mono E₁)
    exact ih.m vs xs σ₂ P X (hm.mono E₂ σ₂) C' S₂ r₂ p₂ (fun z σ₃ p₃ v₃ h₃ tk₃ news₃ φ₃ S₃ E₃ r₃ => hK _ _ p₃ _ _ _ _ _ S₃ ((E₁.trans E₂).trans E₃) r₃) ((hX.mono E₁).mono E₂)
end
end Mine
end

section
open PySem PySem.W PyProof.Rows
namespace Mine
section
variable {Z : Wd} {n : Nat}
theorem len_3 {α : Type} {l : List α} (h : l.length = 3) : ∃ a b c, l = [a, b, c] := by
  rcases l with _ | ⟨a, _ | ⟨b, _ | ⟨c, _ | ⟨d, l⟩⟩⟩⟩
  case cons.cons.cons.nil => exact ⟨a, b, c, rfl⟩
  all_goals exact absurd h (by simp)
set_option tactic.hygienic false
theorem okSts (ih : OK Z n) : SSs Z (n + 1) := by
  intro A env top outer h₀ L ss ρ σ P X h m news φ tk Q E ow C S O hw hK hX hE
  have C' := C.down (Nat.le_succ n)
  cases ss with
  | nil =>
    unfold evSs at hw
    exact wpAny_execs_nil (hK _ _ _ hw _ _ _ _ _ _ .next S (.refl _ _ _) O rfl)
  | cons s r =>
    unfold evSs at hw
    refine wpAny_execs_cons (ih.s s ρ σ _ X ow C' S O hw (fun fl ρ₁ σ₁ p f h₁ tk₁ m₁ news₁ φ₁ rf S₁ E₁ O₁ hs₁ => ?_) hX hE)
    cases rf with
    | next => exact ih.ss r ρ₁ σ₁ P X ow (by rw [hs₁]; exact C') S₁ O₁ p (fun fl ρ₂ σ₂ q f h₂ tk₂ m₂ news₂ φ₂ rf S₂ E₂ O₂ hs₂ => hK _ _ _ q _ _ _ _ _ _ rf S₂ (E₁.trans E₂) O₂ (hs₂.trans hs₁)) (hX.mono E₁) hE
    | brk => exact hK _ _ _ p _ _ _ _ _ _ .brk S₁ E₁ O₁ hs₁
    | cont => exact hK _ _ _ p _ _ _ _ _ _ .cont S₁ E₁ O₁ hs₁
    | ret r => exact hK _ _ _ p _ _ _ _ _ _ (.ret r) S₁ E₁ O₁ hs₁
inductive InvW (Z : Wd) (env : PySem.Env) (h₀ : Heap) (L : Addr) (ρ : Mine.Env) (news : Led) (φ : List Addr) (J : Nat -> Mine.Env -> Hp -> Prop) (k : Nat) (s : Shared) : Prop
  | mk (h : Heap) (tk : Nat) (m : Str -> Option Value) (news' : Led) (φ' : List Addr) (ρ' : Mine.Env) (σ' : Hp) : s = ⟨h, Z.g, Z.d, tk, Z.os⟩ -> SimZ Z h₀ L m h news' φ' σ' -> Ext Z.H news φ news' φ' -> LO Z env L news' φ' m ρ' -> ρ'.sc = ρ.sc -> J k ρ' σ' -> InvW Z env h₀ L ρ news φ J k s
theorem okSt (W : Wk Z) (ih : OK Z n) : SS Z (n + 1) := by
  intro A env top outer h₀ L s ρ σ P X h m news φ tk Q E ow C S O hw hK hX hE
  have C' := C.down (Nat.le_succ n)
  have assign_to : ∀ {t value : PySem.Expr} {pos : Pos}, plain1 t = true -> isComp value = false -> swappedStores [t] value env = pure none -> evE Z.T n value ρ σ (fun v σ₁ => evA Z.T n t v ρ σ₁ (fun ρ₂ σ₂ => P .next ρ₂ σ₂) X) X ->
      wpAny (model Z.prog Z.w) A (exec (.Assign [t] value pos) env) Q E ⟨h, Z.g, Z.d, tk, Z.os⟩ := fun {t value pos} h1 hc h2 h3 => by
    refine Assign_any h1 hc h2 (ih.e value ρ σ _ X C' S O h3 (fun x σ₁ p v h₁ tk₁ news₁ φ₁ S₁ E₁ r₁ => ?_) hX)
    exact ih.a t x ρ σ₁ _ X ow C' S₁ (O.mono E₁) r₁ p (fun ρ₂ σ₂ q h₂ tk₂ m₂ news₂ φ₂ S₂ E₂ O₂ hs₂ => hK _ _ _ q _ _ _ _ _ _ .next S₂ (E₁.trans E₂) O₂ hs₂) (hX.mono E₁)
  refine evS_cases hw ?_ ?_ ?_ ?_ ?_ ?_ ?_ ?_ <;> clear hw
  ·
    intro e pos he hc hw
    subst he
    refine wpAny_Expr_any (ih.e _ ρ σ _ X C' S O hw (fun x σ₁ p v h₁ tk₁ news₁ φ₁ S₁ E₁ r₁ => hK _ _ _ p _ _ _ _ _ _ .next S₁ E₁ (O.mono E₁) rfl) hX) ?_ (swaps_ok hc _ _ _)
    unfold interactive
    rw [C.env_.kind]
    rfl
  ·
    intro x p es q pos he hl hs hw
    subst he
    · skip
      · skip
        obtain ⟨g1, g2⟩ := C.env_.locOk hl
        refine Assign_any rfl rfl rfl (List_ ?_)
        have store : ∀ {v : Value} {x' : V} {σ₁ : Hp} {h₁ : Heap} {tk₁ : Nat} {news₁ : Led} {φ₁ : List Addr}, SimZ Z h₀ L m h₁ news₁ φ₁ σ₁ -> Ext Z.H news φ news₁ φ₁ -> VRZ Z news₁ φ₁ v x' -> P .next (ρ.put x.cps.toList x') σ₁ ->
            wpAny (model Z.prog Z.w) A (assign (.Name x p) env v) (fun _ => Q .next) E ⟨h₁, Z.g, Z.d, tk₁, Z.os⟩ := fun {v x' σ₁ h₁ tk₁ news₁ φ₁} S₁ E₁ r₁ pp => by
          refine wpAny_assign_Name ?_
          refine storeG C.env_ ow.2 g1 S₁.F S₁.N fun h' F' N' => ?_
          exact hK _ _ _ pp _ _ _ _ _ _ .next (S₁.frame F' N') E₁ ((O.mono E₁).put g2 g1 ow.2 r₁) rfl
        revert hw
        cases isMut Z.T ρ.fn x.cps.toList with
        | true =>
          intro hw
          refine ih.es es q ρ σ _ X C' S O hs hw (fun xs σ₁ pp vs h₁ tk₁ news₁ φ₁ S₁ E₁ r₁ => ?_) hX
          exact newMut_rule (P := fun x' σ₂ => P .next (ρ.put x.cps.toList x') σ₂) S₁ r₁ pp fun z σ₃ p₃ v₃ h₃ tk₃ news₃ φ₃ S₃ E₃ r₃ => store S₃ (E₁.trans E₃) r₃ p₃
        | false =>
          intro hw
          refine ih.es es q ρ σ _ X C' S O hs hw (fun xs σ₁ pp vs h₁ tk₁ news₁ φ₁ S₁ E₁ r₁ => ?_) hX
          exact newLst_rule (P := fun x' σ₂ => P .next (ρ.put x.cps.toList x') σ₂) S₁ r₁ pp fun z σ₃ p₃ v₃ h₃ tk₃ news₃ φ₃ S₃ E₃ r₃ => store S₃ (E₁.trans E₃) r₃ p₃
  ·
    intro t value pos he hp hc hsw hw
    subst he
    exact assign_to hp hc (hsw env) hw
  ·
    intro c a b pos he hw
    subst he
    refine wpAny_If (ih.b _ ρ σ _ X C' S O hw (fun t σ₁ p h₁ tk₁ news₁ φ₁ S₁ E₁ => ?_) hX)
    have go : ∀ {b : List Stmt}, evSs Z.T n b ρ σ₁ P X -> wpAny (model Z.prog Z.w) A (execs b env) Q E ⟨h₁, Z.g, Z.d, tk₁, Z.os⟩ := fun {b} q =>
      ih.ss b ρ σ₁ P X ow C' S₁ (O.mono E₁) q (fun fl ρ₂ σ₂ q f h₂ tk₂ m₂ news₂ φ₂ rf S₂ E₂ O₂ hs₂ => hK _ _ _ q _ _ _ _ _ _ rf S₂ (E₁.trans E₂) O₂ hs₂) (hX.mono E₁) hE
    cases t with
    | true => exact go p
    | false => exact go p
  ·
    intro e pos he hw
    subst he
    exact wpAny_Return_some (ih.e _ ρ σ _ X C' S O hw (fun x σ₁ p v h₁ tk₁ news₁ φ₁ S₁ E₁ r₁ => hK _ _ _ p _ _ _ _ _ _ (.ret r₁) S₁ E₁ (O.mono E₁) rfl) hX)
  ·
    intro c b pos he hw
    subst he
    obtain ⟨J, ⟨k, hk⟩, turn⟩ := hw
    refine wpAny_While (codeAny_whileLoop (InvW Z env h₀ L ρ news φ J) (fun k s hI => ?_) k ⟨h, tk, m, news, φ, ρ, σ, rfl, S, .refl _ _ _, O, rfl, hk⟩)
    obtain ⟨h, tk, m, news', φ', ρ', σ', rfl, S, ex, O, hsc, hj⟩ := hI
    have C₁ : CxZ Z A env top outer h₀ L ρ'.sc n := by rw [hsc]; exact C'
    refine wpAny_passesOwn hE (ih.b c ρ' σ' _ X C₁ S O (turn k ρ' σ' hj) (fun t σ₁ p h₁ tk₁ news₁ φ₁ S₁ E₁ => ?_) (hX.mono ex))
    cases t with
    | true =>
      simp only [if_true]
      refine wpAny_passesOwn hE (ih.ss b ρ' σ₁ _ X ow C₁ S₁ (O.mono E₁) p (fun fl ρ₂ σ₂ q f h₂ tk₂ m₂ news₂ φ₂ rf S₂ E₂ O₂ hs₂ => ?_) (hX.mono (ex.trans E₁)) hE)
      have ex₂ := (ex.trans E₁).trans E₂
      cases rf with
      | next => obtain ⟨k', hk', hj'⟩ := q; exact ⟨k', hk', h₂, tk₂, m₂, news₂, φ₂, ρ₂, σ₂, rfl, S₂, ex₂, O₂, hs₂.trans hsc, hj'⟩
      | cont => obtain ⟨k', hk', hj'⟩ := q; exact ⟨k', hk', h₂, tk₂, m₂, news₂, φ₂, ρ₂, σ₂, rfl, S₂, ex₂, O₂, hs₂.trans hsc, hj'⟩
      | brk => exact hK _ _ _ q _ _ _ _ _ _ .next S₂ ex₂ O₂ (hs₂.trans hsc)
      | ret r => exact hK _ _ _ q _ _ _ _ _ _ (.ret r) S₂ ex₂ O₂ (hs₂.trans hsc)
    | false =>
      simp only [Bool.false_eq_true, if_false]
      exact wpAny_execs_nil (hK _ _ _ p _ _ _ _ _ _ .next S₁ (ex.trans E₁) (O.mono E₁) hsc)
  ·
    intro t it b pos he hw
    subst he
    refine wpAny_For (ih.e it ρ σ _ X C' S O hw (fun w σ₁ p u h₁ tk₁ news₁ φ₁ S₁ E₁ r₁ => ?_) hX) (folded_ok (evE_set hw) env)
    obtain ⟨l, hl, p⟩ := oP_e p
    rcases forItems_e hl with ⟨a, b', rfl, ha, hb, rfl⟩ | rfl
    · obtain ⟨_, _, _, _, rfl, mm, off⟩ := r₁.rng_e
      refine wpAny_pyIter_range (s := ⟨h₁, Z.g, Z.d, tk₁, Z.os⟩) (S₁.N.get mm) (range_small a b' ha hb) ?_
      obtain ⟨S₂, E₂, off₂⟩ := push_it S₁ { cls := .type "range_iterator", data := .fields #[rawInt (.ofNat a), rawInt (Builtin.Range.rangeSize (.ofNat a) (.ofNat b') 1), rawInt 1] } rfl
      refine for_sound ih ow C' (intsL_len (.ofNat a) (b' - a) ▸ turns_range C.hd h₁.objs.size (.ofNat a) (b' - a)) (fun p hp => Nat.ne_of_lt (Heap.lt_size (S₁.N p hp).1)) (fun i v x news' φ' _ hv hx => ?_) (fun _ _ _ _ _ _ _ => trivial)
        (fun fl ρ₂ σ₂ q f h₂ tk₂ m₂ news₂ φ₂ rf S₂ E₂ O₂ hs₂ => hK _ _ _ q _ _ _ _ _ _ rf S₂ (E₁.trans E₂) O₂ hs₂) (hX.mono E₁) hE S₂ E₂ ((O.mono E₁).mono E₂) (.head _) off₂ (range_obj a b') p
      obtain ⟨t', rfl⟩ := hv
      rw [intsL_get _ _ _ _ hx]
      exact .int _ _
    · obtain ⟨ax, vs, nn, rfl, mm, off, r, z⟩ := r₁.vls_e
      refine wpAny_pyIter_list (s := ⟨h₁, Z.g, Z.d, tk₁, Z.os⟩) (S₁.N.isList mm) ?_
      obtain ⟨S₂, E₂, off₂⟩ := push_it S₁ { cls := .type "list_iterator", data := .fields #[.ref ax, .int 0 0] } rfl
      have hln : vs.toArray.size = l.length := by rw [List.size_toArray, r.length]
      exact for_sound ih ow C' (hln ▸ turns_list C.hd h₁.objs.size ax vs.toArray) (fun p hp => Nat.ne_of_lt (Heap.lt_size (S₁.N p hp).1)) (fun i v x news' φ' ex hv hx => (r.at_ hx hv).mono ex) (fun m' h' news' φ' σ' S' ex => S'.N.isList (ex.off mm off).1)
        (fun fl ρ₂ σ₂ q f h₂ tk₂ m₂ news₂ φ₂ rf S₂ E₂ O₂ hs₂ => hK _ _ _ q _ _ _ _ _ _ rf S₂ (E₁.trans E₂) O₂ hs₂) (hX.mono E₁) hE S₂ E₂ ((O.mono E₁).mono E₂) (.head _) off₂ ⟨rfl, rfl⟩ p
  ·
    intro C0 np es cpos pos he hg hsrc h3 hns hn hw
    subst he
    have hn := Nat.le_of_ble_eq_true hn
    obtain ⟨e₁, e₂, e₃, rfl⟩ := len_3 h3
    refine W.prims.raise (n := n - 4) hsrc hg rfl hns ow (C'.down (Nat.sub_add_cancel hn ▸ Nat.le_refl _)) S ?_
    refine ih.es _ _ ρ σ _ X C' S O hns hw (fun xs σ₁ p vs h₁ tk₁ news₁ φ₁ S₁ E₁ r₁ => ?_) hX
    obtain ⟨p3, p⟩ := ifB_e p
    exact ⟨_, _, _, _, _, _, rfl, S₁, r₁, r₁.length.trans (Nat.eq_of_beq_eq_true p3), fun e s' z => hX _ _ p e s' (z.of_ext E₁)⟩
theorem ok_zero : OK Z 0 where
  e := by intro _ _ _ _ _ _ _ _ _ _ _ _ _ _ _ _ _ _ _ _ _ h; exact False.elim h
  o := by intro _ _ _ _ _ _ _ _ _ _ _ _ _ _ _ _ _ _ _ _ _ h; exact False.elim h
  es := by intro _ _ _ _ _ _ _ _ _ _ _ _ _ _ _ _ _ _ _ _ _ _ _ h; exact False.elim h
  bool := by intro _ _ _ _ _ _ _ _ _ _ _ _ _ _ _ _ _ _ _ _ _ _ _ h; exact False.elim h
  b := by intro _ _ _ _ _ _ _ _ _ _ _ _ _ _ _ _ _ _ _ _ _ h; exact False.elim h
  bs := by intro _ _ _ _ _ _ _ _ _ _ _ _ _ _ _ _ _ _ _ _ _ _ _ _ h; exact False.elim h
  f := by intro _ _ _ _ _ _ _ _ _ _ _ _ _ _ _ _ _ _ _ _ _ _ _ _ _ h; exact False.elim h
  d := by intro _ _ _ _ _ _ _ _ _ _ _ _ _ _ _ _ _ _ _ _ _ _ _ _ _ h; exact False.elim h
  m := by intro _ _ _ _ _ _ _ _ _ _ _ _ _ _ _ _ _ _ _ _ _ _ _ _ _ _ _ h; exact False.elim h
  a := by intro _ _ _ _ _ _ _ _ _ _ _ _ _ _ _ _ _ _ _ _ _ _ _ _ _ h; exact False.elim h
  s := by intro _ _ _ _ _ _ _ _ _ _ _ _ _ _ _ _ _ _ _ _ _ _ h; exact False.elim h
  ss := by intro _ _ _ _ _ _ _ _ _ _ _ _ _ _ _ _ _ _ _ _ _ _ h; exact False.elim h
theorem sound (W : ∀ pin H, Wk (Z.pinned pin H)) : ∀ n pin H, OK (Z.pinned pin H) n
  | 0, _, _ => ok_zero
  | n + 1, pin, H =>
    let ih := sound W n pin H
    ⟨okE (W pin H) ih (fun p h => sound W n p h), okO ih, okEs ih, okBool ih, okB ih, okBs ih, okF (W pin H) ih, okD ih, okM (W pin H) ih, okA (W pin H) ih, okSt (W pin H) ih, okSts ih⟩
end
end Mine
end

section
open PySem PySem.W PyProof.Rows
namespace Mine
noncomputable def st (i : Nat) : Stmt := match pw_sj0033_01.main.body[i]? with
  | some s => s
  | none => .Pass ⟨0, 0, 0, 0⟩
noncomputable def ms (i j : Nat) : Stmt := match st i with
  | .ClassDef _ _ _ b _ _ _ _ _ _ _ => (match b[j]? with
    | some s => s
    | none => .Pass ⟨0, 0, 0, 0⟩)
  | _ => .Pass ⟨0, 0, 0, 0⟩
noncomputable def sP : Stmt -> Arguments
  | .FunctionDef _ a _ _ _ _ _ _ _ _ => a
  | _ => ⟨[], [], none, [], [], none, []⟩
noncomputable def sB : Stmt -> List Stmt
  | .FunctionDef _ _ b _ _ _ _ _ _ _ => b
  | _ => []
noncomputable def sS : Stmt -> Scope
  | .FunctionDef _ _ _ _ _ _ s _ _ _ => s
  | _ => ⟨.function, [], false, false, []⟩
noncomputable def K0 (P : Params) : Frag := [
(3, ⟨(.type "dict"), none, (.dict #[⟨PyData.keyHash P (Str.ofString "__name__"), (.str (Str.ofString "__name__") 165), (.str (Str.ofString "law_sj0033_01") 487)⟩, ⟨PyData.keyHash P (Str.ofString "__doc__"), (.str (Str.ofString "__doc__") 166), .none⟩, ⟨PyData.keyHash P (Str.ofString "__package__"), (.str (Str.ofString "__package__") 167), .none⟩, ⟨PyData.keyHash P (Str.ofString "__loader__"), (.str (Str.ofString "__loader__") 168), (.builtin "__main__.__loader__#opaque")⟩, ⟨PyData.keyHash P (Str.ofString "__spec__"), (.str (Str.ofString "__spec__") 169), .none⟩, ⟨PyData.keyHash P (Str.ofString "__annotations__"), (.str (Str.ofString "__annotations__") 170), (.ref 6)⟩, ⟨PyData.keyHash P (Str.ofString "__builtins__"), (.str (Str.ofString "__builtins__") 171), (.ref 4)⟩, ⟨PyData.keyHash P (Str.ofString "__file__"), (.str (Str.ofString "__file__") 173), (.str (Str.ofString "/claim/cut.py") 172)⟩, ⟨PyData.keyHash P (Str.ofString "__cached__"), (.str (Str.ofString "__cached__") 174), .none⟩, ⟨PyData.keyHash P (Str.ofString "_wall"), (.str (Str.ofString "_wall") 193), (.ref 21)⟩, ⟨PyData.keyHash P (Str.ofString "ansi_ports"), (.str (Str.ofString "ansi_ports") 205), (.ref 28)⟩, ⟨PyData.keyHash P (Str.ofString "port_declarations"), (.str (Str.ofString "port_declarations") 217), (.ref 35)⟩, ⟨PyData.keyHash P (Str.ofString "initial_code"), (.str (Str.ofString "initial_code") 228), (.ref 42)⟩, ⟨PyData.keyHash P (Str.ofString "level_codes"), (.str (Str.ofString "level_codes") 235), (.ref 49)⟩, ⟨PyData.keyHash P (Str.ofString "GateloomError"), (.str (Str.ofString "GateloomError") 273), (.ref 67)⟩, ⟨PyData.keyHash P (Str.ofString "SourceError"), (.str (Str.ofString "SourceError") 289), (.ref 80)⟩, ⟨PyData.keyHash P (Str.ofString "Token"), (.str (Str.ofString "Token") 324), (.ref 99)⟩, ⟨PyData.keyHash P (Str.ofString "TokenRow"), (.str (Str.ofString "TokenRow") 363), (.ref 127)⟩, ⟨PyData.keyHash P (Str.ofString "Cursor"), (.str (Str.ofString "Cursor") 486), (.ref 227)⟩, ⟨PyData.keyHash P (Str.ofString "_law_feed"), (.str (Str.ofString "_law_feed") 494), (.ref 236)⟩, ⟨PyData.keyHash P (Str.ofString "_law_pick"), (.str (Str.ofString "_law_pick") 503), (.ref 243)⟩, ⟨PyData.keyHash P (Str.ofString "_law_figure"), (.str (Str.ofString "_law_figure") 513), (.ref 250)⟩, ⟨PyData.keyHash P (Str.ofString "_law_listed"), (.str (Str.ofString "_law_listed") 526), (.ref 257)⟩, ⟨PyData.keyHash P (Str.ofString "_law_bracketed"), (.str (Str.ofString "_law_bracketed") 537), (.ref 264)⟩, ⟨PyData.keyHash P (Str.ofString "_law_spoiled"), (.str (Str.ofString "_law_spoiled") 550), (.ref 271)⟩, ⟨PyData.keyHash P (Str.ofString "_law_placed"), (.str (Str.ofString "_law_placed") 556), (.ref 276)⟩, ⟨PyData.keyHash P (Str.ofString "_law_moves"), (.str (Str.ofString "_law_moves") 566), (.ref 283)⟩, ⟨PyData.keyHash P (Str.ofString "_law_word"), (.str (Str.ofString "_law_word") 575), (.ref 290)⟩, ⟨PyData.keyHash P (Str.ofString "_law_due"), (.str (Str.ofString "_law_due") 593), (.ref 297)⟩, ⟨PyData.keyHash P (Str.ofString "_law_right"), (.str (Str.ofString "_law_right") 599), (.ref 302)⟩, ⟨PyData.keyHash P (Str.ofString "law"), (.str (Str.ofString "law") 605), (.ref 307)⟩] 31), #[]⟩),
(27, ⟨(.type "code"), none, (.fields #[(.str (Str.ofString "ansi_ports") 196), (.str (Str.ofString "ansi_ports") 197), (.str (Str.ofString "/claim/cut.py") 198), (.int (5) 0), (.int (1) 0), (.int (0) 0), (.int (0) 0), (.int (3) 0), (.ref 22), (.bool true), (.int (181) 0), (.ref 23), .none, (.ref 24), (.ref 25), (.ref 26), (.int (203) 0), (.int (5) 0), (.str (Str.ofString "/claim/cut.py") 204)]), #[]⟩),
(28, ⟨(.type "function"), none, (.func (PySem.W.fnOf (Str.ofString "ansi_ports") (Str.ofString "ansi_ports") (sP (st 2)) (sB (st 2)) (sS (st 2)) .none .none .none (.str (Str.ofString "gateloom.udps") 194) none (.ref 27) .none)), #[]⟩),
(34, ⟨(.type "code"), none, (.fields #[(.str (Str.ofString "port_declarations") 206), (.str (Str.ofString "port_declarations") 207), (.str (Str.ofString "/claim/cut.py") 208), (.int (19) 0), (.int (2) 0), (.int (0) 0), (.int (0) 0), (.int (3) 0), (.ref 29), (.bool true), (.int (181) 0), (.ref 30), .none, (.ref 31), (.ref 32), (.ref 33), (.int (215) 0), (.int (19) 0), (.str (Str.ofString "/claim/cut.py") 216)]), #[]⟩),
(35, ⟨(.type "function"), none, (.func (PySem.W.fnOf (Str.ofString "port_declarations") (Str.ofString "port_declarations") (sP (st 3)) (sB (st 3)) (sS (st 3)) .none .none .none (.str (Str.ofString "gateloom.udps") 194) none (.ref 34) .none)), #[]⟩),
(41, ⟨(.type "code"), none, (.fields #[(.str (Str.ofString "initial_code") 218), (.str (Str.ofString "initial_code") 219), (.str (Str.ofString "/claim/cut.py") 220), (.int (46) 0), (.int (1) 0), (.int (0) 0), (.int (0) 0), (.int (3) 0), (.ref 36), (.bool true), (.int (181) 0), (.ref 37), .none, (.ref 38), (.ref 39), (.ref 40), (.int (226) 0), (.int (46) 0), (.str (Str.ofString "/claim/cut.py") 227)]), #[]⟩),
(42, ⟨(.type "function"), none, (.func (PySem.W.fnOf (Str.ofString "initial_code") (Str.ofString "initial_code") (sP (st 4)) (sB (st 4)) (sS (st 4)) .none .none .none (.str (Str.ofString "gateloom.udps") 194) none (.ref 41) .none)), #[]⟩),
(48, ⟨(.type "code"), none, (.fields #[(.str (Str.ofString "level_codes") 229), (.str (Str.ofString "level_codes") 230), (.str (Str.ofString "/claim/cut.py") 231), (.int (54) 0), (.int (1) 0), (.int (0) 0), (.int (0) 0), (.int (3) 0), (.ref 43), (.bool true), (.int (181) 0), (.ref 44), .none, (.ref 45), (.ref 46), (.ref 47), (.int (233) 0), (.int (54) 0), (.str (Str.ofString "/claim/cut.py") 234)]), #[]⟩),
(49, ⟨(.type "function"), none, (.func (PySem.W.fnOf (Str.ofString "level_codes") (Str.ofString "level_codes") (sP (st 5)) (sB (st 5)) (sS (st 5)) .none .none .none (.str (Str.ofString "gateloom.udps") 194) none (.ref 48) .none)), #[]⟩),
(57, ⟨(.type "tuple"), none, (.seq #[(.int (-1) 251), (.str (Str.ofString "") 252)] 0), #[]⟩),
(63, ⟨(.type "code"), none, (.fields #[(.str (Str.ofString "__init__") 253), (.str (Str.ofString "GateloomError.__init__") 254), (.str (Str.ofString "/claim/cut.py") 255), (.int (69) 0), (.int (4) 0), (.int (0) 0), (.int (0) 0), (.int (3) 0), (.ref 58), (.bool true), (.int (181) 0), (.ref 59), .none, (.ref 60), (.ref 61), (.ref 62), (.int (260) 0), (.int (69) 0), (.str (Str.ofString "/claim/cut.py") 261)]), #[]⟩),
(64, ⟨(.type "function"), none, (.func (PySem.W.fnOf (Str.ofString "__init__") (Str.ofString "GateloomError.__init__") (sP (ms 7 0)) (sB (ms 7 0)) (sS (ms 7 0)) (.ref 57) .none .none (.str (Str.ofString "gateloom.errors") 236) none (.ref 63) .none)), #[]⟩),
(66, ⟨(.type "dict"), none, (.dict #[⟨PyData.keyHash P (Str.ofString "__module__"), (.str (Str.ofString "__module__") 245), (.str (Str.ofString "gateloom.errors") 236)⟩, ⟨PyData.keyHash P (Str.ofString "__firstlineno__"), (.str (Str.ofString "__firstlineno__") 249), (.int (67) 248)⟩, ⟨PyData.keyHash P (Str.ofString "__init__"), (.str (Str.ofString "__init__") 262), (.ref 64)⟩, ⟨PyData.keyHash P (Str.ofString "__static_attributes__"), (.str (Str.ofString "__static_attributes__") 266), (.ref 65)⟩, ⟨PyData.keyHash P (Str.ofString "__weakref__"), (.str (Str.ofString "__weakref__") 268), (.ref 68)⟩, ⟨PyData.keyHash P (Str.ofString "__doc__"), (.str (Str.ofString "__doc__") 269), .none⟩] 3), #[]⟩),
(67, ⟨(.type "type"), none, (.cls ⟨(Str.ofString "GateloomError"), [(.type "Exception")], [(.ref 67), (.type "Exception"), (.type "BaseException"), (.type "object")], 66, (Str.ofString "GateloomError"), true, [], [(.ref 80)], false, none, false⟩), #[(some (.ref 50)), none, (some (.str (Str.ofString "GateloomError") 238)), (some (.str (Str.ofString "GateloomError") 246)), (some (.builtin "Exception.__new__")), (some (.bool true))]⟩),
(79, ⟨(.type "dict"), none, (.dict #[⟨PyData.keyHash P (Str.ofString "__module__"), (.str (Str.ofString "__module__") 281), (.str (Str.ofString "gateloom.errors") 236)⟩, ⟨PyData.keyHash P (Str.ofString "__firstlineno__"), (.str (Str.ofString "__firstlineno__") 285), (.int (73) 284)⟩, ⟨PyData.keyHash P (Str.ofString "__static_attributes__"), (.str (Str.ofString "__static_attributes__") 286), (.ref 78)⟩, ⟨PyData.keyHash P (Str.ofString "__doc__"), (.str (Str.ofString "__doc__") 287), .none⟩] 2), #[]⟩),
(80, ⟨(.type "type"), none, (.cls ⟨(Str.ofString "SourceError"), [(.ref 67)], [(.ref 80), (.ref 67), (.type "Exception"), (.type "BaseException"), (.type "object")], 79, (Str.ofString "SourceError"), true, [], [], false, none, false⟩), #[(some (.ref 71)), none, (some (.str (Str.ofString "SourceError") 274)), (some (.str (Str.ofString "SourceError") 282)), (some (.builtin "Exception.__new__")), (some (.bool true))]⟩),
(95, ⟨(.type "code"), none, (.fields #[(.str (Str.ofString "__init__") 304), (.str (Str.ofString "Token.__init__") 305), (.str (Str.ofString "/claim/cut.py") 306), (.int (78) 0), (.int (4) 0), (.int (0) 0), (.int (0) 0), (.int (3) 0), (.ref 90), (.bool true), (.int (181) 0), (.ref 91), .none, (.ref 92), (.ref 93), (.ref 94), (.int (311) 0), (.int (78) 0), (.str (Str.ofString "/claim/cut.py") 312)]), #[]⟩),
(96, ⟨(.type "function"), none, (.func (PySem.W.fnOf (Str.ofString "__init__") (Str.ofString "Token.__init__") (sP (ms 10 0)) (sB (ms 10 0)) (sS (ms 10 0)) .none .none .none (.str (Str.ofString "gateloom.tokens") 290) none (.ref 95) .none)), #[]⟩),
(98, ⟨(.type "dict"), none, (.dict #[⟨PyData.keyHash P (Str.ofString "__module__"), (.str (Str.ofString "__module__") 299), (.str (Str.ofString "gateloom.tokens") 290)⟩, ⟨PyData.keyHash P (Str.ofString "__firstlineno__"), (.str (Str.ofString "__firstlineno__") 303), (.int (76) 302)⟩, ⟨PyData.keyHash P (Str.ofString "__init__"), (.str (Str.ofString "__init__") 313), (.ref 96)⟩, ⟨PyData.keyHash P (Str.ofString "__static_attributes__"), (.str (Str.ofString "__static_attributes__") 317), (.ref 97)⟩, ⟨PyData.keyHash P (Str.ofString "__dict__"), (.str (Str.ofString "__dict__") 319), (.ref 100)⟩, ⟨PyData.keyHash P (Str.ofString "__weakref__"), (.str (Str.ofString "__weakref__") 321), (.ref 101)⟩, ⟨PyData.keyHash P (Str.ofString "__doc__"), (.str (Str.ofString "__doc__") 322), .none⟩] 4), #[]⟩),
(99, ⟨(.type "type"), none, (.cls ⟨(Str.ofString "Token"), [(.type "object")], [(.ref 99), (.type "object")], 98, (Str.ofString "Token"), true, [], [], false, none, false⟩), #[none, none, (some (.str (Str.ofString "Token") 292)), (some (.str (Str.ofString "Token") 300)), (some (.builtin "object.__new__")), (some (.bool true))]⟩),
(116, ⟨(.type "code"), none, (.fields #[(.str (Str.ofString "__init__") 337), (.str (Str.ofString "TokenRow.__init__") 338), (.str (Str.ofString "/claim/cut.py") 339), (.int (84) 0), (.int (2) 0), (.int (0) 0), (.int (0) 0), (.int (3) 0), (.ref 111), (.bool true), (.int (181) 0), (.ref 112), .none, (.ref 113), (.ref 114), (.ref 115), (.int (342) 0), (.int (84) 0), (.str (Str.ofString "/claim/cut.py") 343)]), #[]⟩),
(117, ⟨(.type "function"), none, (.func (PySem.W.fnOf (Str.ofString "__init__") (Str.ofString "TokenRow.__init__") (sP (ms 11 0)) (sB (ms 11 0)) (sS (ms 11 0)) .none .none .none (.str (Str.ofString "gateloom.tokens") 290) none (.ref 116) .none)), #[]⟩),
(123, ⟨(.type "code"), none, (.fields #[(.str (Str.ofString "next_token") 345), (.str (Str.ofString "TokenRow.next_token") 346), (.str (Str.ofString "/claim/cut.py") 347), (.int (89) 0), (.int (1) 0), (.int (0) 0), (.int (0) 0), (.int (3) 0), (.ref 118), (.bool true), (.int (181) 0), (.ref 119), .none, (.ref 120), (.ref 121), (.ref 122), (.int (350) 0), (.int (89) 0), (.str (Str.ofString "/claim/cut.py") 351)]), #[]⟩),
(124, ⟨(.type "function"), none, (.func (PySem.W.fnOf (Str.ofString "next_token") (Str.ofString "TokenRow.next_token") (sP (ms 11 1)) (sB (ms 11 1)) (sS (ms 11 1)) .none .none .none (.str (Str.ofString "gateloom.tokens") 290) none (.ref 123) .none)), #[]⟩),
(126, ⟨(.type "dict"), none, (.dict #[⟨PyData.keyHash P (Str.ofString "__module__"), (.str (Str.ofString "__module__") 332), (.str (Str.ofString "gateloom.tokens") 290)⟩, ⟨PyData.keyHash P (Str.ofString "__firstlineno__"), (.str (Str.ofString "__firstlineno__") 336), (.int (82) 335)⟩, ⟨PyData.keyHash P (Str.ofString "__init__"), (.str (Str.ofString "__init__") 344), (.ref 117)⟩, ⟨PyData.keyHash P (Str.ofString "next_token"), (.str (Str.ofString "next_token") 352), (.ref 124)⟩, ⟨PyData.keyHash P (Str.ofString "__static_attributes__"), (.str (Str.ofString "__static_attributes__") 356), (.ref 125)⟩, ⟨PyData.keyHash P (Str.ofString "__dict__"), (.str (Str.ofString "__dict__") 358), (.ref 128)⟩, ⟨PyData.keyHash P (Str.ofString "__weakref__"), (.str (Str.ofString "__weakref__") 360), (.ref 129)⟩, ⟨PyData.keyHash P (Str.ofString "__doc__"), (.str (Str.ofString "__doc__") 361), .none⟩] 4), #[]⟩),
(127, ⟨(.type "type"), none, (.cls ⟨(Str.ofString "TokenRow"), [(.type "object")], [(.ref 127), (.type "object")], 126, (Str.ofString "TokenRow"), true, [], [], false, none, false⟩), #[none, none, (some (.str (Str.ofString "TokenRow") 325)), (some (.str (Str.ofString "TokenRow") 333)), (some (.builtin "object.__new__")), (some (.bool true))]⟩),
(144, ⟨(.type "code"), none, (.fields #[(.str (Str.ofString "__init__") 376), (.str (Str.ofString "Cursor.__init__") 377), (.str (Str.ofString "/claim/cut.py") 378), (.int (97) 0), (.int (2) 0), (.int (0) 0), (.int (0) 0), (.int (3) 0), (.ref 139), (.bool true), (.int (181) 0), (.ref 140), .none, (.ref 141), (.ref 142), (.ref 143), (.int (381) 0), (.int (97) 0), (.str (Str.ofString "/claim/cut.py") 382)]), #[]⟩),
(145, ⟨(.type "function"), none, (.func (PySem.W.fnOf (Str.ofString "__init__") (Str.ofString "Cursor.__init__") (sP (ms 12 0)) (sB (ms 12 0)) (sS (ms 12 0)) .none .none .none (.str (Str.ofString "gateloom.tokens") 290) none (.ref 144) .none)), #[]⟩),
(151, ⟨(.type "code"), none, (.fields #[(.str (Str.ofString "fetch") 384), (.str (Str.ofString "Cursor.fetch") 385), (.str (Str.ofString "/claim/cut.py") 386), (.int (104) 0), (.int (1) 0), (.int (0) 0), (.int (0) 0), (.int (3) 0), (.ref 146), (.bool true), (.int (181) 0), (.ref 147), .none, (.ref 148), (.ref 149), (.ref 150), (.int (389) 0), (.int (104) 0), (.str (Str.ofString "/claim/cut.py") 390)]), #[]⟩),
(152, ⟨(.type "function"), none, (.func (PySem.W.fnOf (Str.ofString "fetch") (Str.ofString "Cursor.fetch") (sP (ms 12 1)) (sB (ms 12 1)) (sS (ms 12 1)) .none .none .none (.str (Str.ofString "gateloom.tokens") 290) none (.ref 151) .none)), #[]⟩),
(166, ⟨(.type "code"), none, (.fields #[(.str (Str.ofString "take") 401), (.str (Str.ofString "Cursor.take") 402), (.str (Str.ofString "/claim/cut.py") 403), (.int (113) 0), (.int (1) 0), (.int (0) 0), (.int (0) 0), (.int (3) 0), (.ref 161), (.bool true), (.int (181) 0), (.ref 162), .none, (.ref 163), (.ref 164), (.ref 165), (.int (406) 0), (.int (113) 0), (.str (Str.ofString "/claim/cut.py") 407)]), #[]⟩),
(167, ⟨(.type "function"), none, (.func (PySem.W.fnOf (Str.ofString "take") (Str.ofString "Cursor.take") (sP (ms 12 3)) (sB (ms 12 3)) (sS (ms 12 3)) .none .none .none (.str (Str.ofString "gateloom.tokens") 290) none (.ref 166) .none)), #[]⟩),
(173, ⟨(.type "code"), none, (.fields #[(.str (Str.ofString "is_op") 409), (.str (Str.ofString "Cursor.is_op") 410), (.str (Str.ofString "/claim/cut.py") 411), (.int (122) 0), (.int (2) 0), (.int (0) 0), (.int (0) 0), (.int (3) 0), (.ref 168), (.bool true), (.int (181) 0), (.ref 169), .none, (.ref 170), (.ref 171), (.ref 172), (.int (414) 0), (.int (122) 0), (.str (Str.ofString "/claim/cut.py") 415)]), #[]⟩),
(174, ⟨(.type "function"), none, (.func (PySem.W.fnOf (Str.ofString "is_op") (Str.ofString "Cursor.is_op") (sP (ms 12 4)) (sB (ms 12 4)) (sS (ms 12 4)) .none .none .none (.str (Str.ofString "gateloom.tokens") 290) none (.ref 173) .none)), #[]⟩),
(180, ⟨(.type "code"), none, (.fields #[(.str (Str.ofString "is_key") 417), (.str (Str.ofString "Cursor.is_key") 418), (.str (Str.ofString "/claim/cut.py") 419), (.int (125) 0), (.int (2) 0), (.int (0) 0), (.int (0) 0), (.int (3) 0), (.ref 175), (.bool true), (.int (181) 0), (.ref 176), .none, (.ref 177), (.ref 178), (.ref 179), (.int (422) 0), (.int (125) 0), (.str (Str.ofString "/claim/cut.py") 423)]), #[]⟩),
(181, ⟨(.type "function"), none, (.func (PySem.W.fnOf (Str.ofString "is_key") (Str.ofString "Cursor.is_key") (sP (ms 12 5)) (sB (ms 12 5)) (sS (ms 12 5)) .none .none .none (.str (Str.ofString "gateloom.tokens") 290) none (.ref 180) .none)), #[]⟩),
(187, ⟨(.type "code"), none, (.fields #[(.str (Str.ofString "accept_op") 425), (.str (Str.ofString "Cursor.accept_op") 426), (.str (Str.ofString "/claim/cut.py") 427), (.int (128) 0), (.int (2) 0), (.int (0) 0), (.int (0) 0), (.int (3) 0), (.ref 182), (.bool true), (.int (181) 0), (.ref 183), .none, (.ref 184), (.ref 185), (.ref 186), (.int (430) 0), (.int (128) 0), (.str (Str.ofString "/claim/cut.py") 431)]), #[]⟩),
(188, ⟨(.type "function"), none, (.func (PySem.W.fnOf (Str.ofString "accept_op") (Str.ofString "Cursor.accept_op") (sP (ms 12 6)) (sB (ms 12 6)) (sS (ms 12 6)) .none .none .none (.str (Str.ofString "gateloom.tokens") 290) none (.ref 187) .none)), #[]⟩),
(194, ⟨(.type "code"), none, (.fields #[(.str (Str.ofString "accept_key") 433), (.str (Str.ofString "Cursor.accept_key") 434), (.str (Str.ofString "/claim/cut.py") 435), (.int (134) 0), (.int (2) 0), (.int (0) 0), (.int (0) 0), (.int (3) 0), (.ref 189), (.bool true), (.int (181) 0), (.ref 190), .none, (.ref 191), (.ref 192), (.ref 193), (.int (438) 0), (.int (134) 0), (.str (Str.ofString "/claim/cut.py") 439)]), #[]⟩),
(195, ⟨(.type "function"), none, (.func (PySem.W.fnOf (Str.ofString "accept_key") (Str.ofString "Cursor.accept_key") (sP (ms 12 7)) (sB (ms 12 7)) (sS (ms 12 7)) .none .none .none (.str (Str.ofString "gateloom.tokens") 290) none (.ref 194) .none)), #[]⟩),
(201, ⟨(.type "code"), none, (.fields #[(.str (Str.ofString "expect_op") 441), (.str (Str.ofString "Cursor.expect_op") 442), (.str (Str.ofString "/claim/cut.py") 443), (.int (140) 0), (.int (2) 0), (.int (0) 0), (.int (0) 0), (.int (3) 0), (.ref 196), (.bool true), (.int (181) 0), (.ref 197), .none, (.ref 198), (.ref 199), (.ref 200), (.int (446) 0), (.int (140) 0), (.str (Str.ofString "/claim/cut.py") 447)]), #[]⟩),
(202, ⟨(.type "function"), none, (.func (PySem.W.fnOf (Str.ofString "expect_op") (Str.ofString "Cursor.expect_op") (sP (ms 12 8)) (sB (ms 12 8)) (sS (ms 12 8)) .none .none .none (.str (Str.ofString "gateloom.tokens") 290) none (.ref 201) .none)), #[]⟩),
(208, ⟨(.type "code"), none, (.fields #[(.str (Str.ofString "expect_key") 449), (.str (Str.ofString "Cursor.expect_key") 450), (.str (Str.ofString "/claim/cut.py") 451), (.int (144) 0), (.int (2) 0), (.int (0) 0), (.int (0) 0), (.int (3) 0), (.ref 203), (.bool true), (.int (181) 0), (.ref 204), .none, (.ref 205), (.ref 206), (.ref 207), (.int (454) 0), (.int (144) 0), (.str (Str.ofString "/claim/cut.py") 455)]), #[]⟩),
(209, ⟨(.type "function"), none, (.func (PySem.W.fnOf (Str.ofString "expect_key") (Str.ofString "Cursor.expect_key") (sP (ms 12 9)) (sB (ms 12 9)) (sS (ms 12 9)) .none .none .none (.str (Str.ofString "gateloom.tokens") 290) none (.ref 208) .none)), #[]⟩),
(215, ⟨(.type "code"), none, (.fields #[(.str (Str.ofString "expect_id") 457), (.str (Str.ofString "Cursor.expect_id") 458), (.str (Str.ofString "/claim/cut.py") 459), (.int (148) 0), (.int (1) 0), (.int (0) 0), (.int (0) 0), (.int (3) 0), (.ref 210), (.bool true), (.int (181) 0), (.ref 211), .none, (.ref 212), (.ref 213), (.ref 214), (.int (461) 0), (.int (148) 0), (.str (Str.ofString "/claim/cut.py") 462)]), #[]⟩),
(216, ⟨(.type "function"), none, (.func (PySem.W.fnOf (Str.ofString "expect_id") (Str.ofString "Cursor.expect_id") (sP (ms 12 10)) (sB (ms 12 10)) (sS (ms 12 10)) .none .none .none (.str (Str.ofString "gateloom.tokens") 290) none (.ref 215) .none)), #[]⟩),
(217, ⟨(.type "tuple"), none, (.seq #[(.str (Str.ofString "") 464)] 0), #[]⟩),
(223, ⟨(.type "code"), none, (.fields #[(.str (Str.ofString "fail") 465), (.str (Str.ofString "Cursor.fail") 466), (.str (Str.ofString "/claim/cut.py") 467), (.int (153) 0), (.int (3) 0), (.int (0) 0), (.int (0) 0), (.int (3) 0), (.ref 218), (.bool true), (.int (181) 0), (.ref 219), .none, (.ref 220), (.ref 221), (.ref 222), (.int (471) 0), (.int (153) 0), (.str (Str.ofString "/claim/cut.py") 472)]), #[]⟩),
(224, ⟨(.type "function"), none, (.func (PySem.W.fnOf (Str.ofString "fail") (Str.ofString "Cursor.fail") (sP (ms 12 11)) (sB (ms 12 11)) (sS (ms 12 11)) (.ref 217) .none .none (.str (Str.ofString "gateloom.tokens") 290) none (.ref 223) .none)), #[]⟩),
(226, ⟨(.type "dict"), none, (.dict #[⟨PyData.keyHash P (Str.ofString "__module__"), (.str (Str.ofString "__module__") 371), (.str (Str.ofString "gateloom.tokens") 290)⟩, ⟨PyData.keyHash P (Str.ofString "__firstlineno__"), (.str (Str.ofString "__firstlineno__") 375), (.int (95) 374)⟩, ⟨PyData.keyHash P (Str.ofString "__init__"), (.str (Str.ofString "__init__") 383), (.ref 145)⟩, ⟨PyData.keyHash P (Str.ofString "fetch"), (.str (Str.ofString "fetch") 391), (.ref 152)⟩, ⟨PyData.keyHash P (Str.ofString "peek"), (.str (Str.ofString "peek") 400), (.ref 160)⟩, ⟨PyData.keyHash P (Str.ofString "take"), (.str (Str.ofString "take") 408), (.ref 167)⟩, ⟨PyData.keyHash P (Str.ofString "is_op"), (.str (Str.ofString "is_op") 416), (.ref 174)⟩, ⟨PyData.keyHash P (Str.ofString "is_key"), (.str (Str.ofString "is_key") 424), (.ref 181)⟩, ⟨PyData.keyHash P (Str.ofString "accept_op"), (.str (Str.ofString "accept_op") 432), (.ref 188)⟩, ⟨PyData.keyHash P (Str.ofString "accept_key"), (.str (Str.ofString "accept_key") 440), (.ref 195)⟩, ⟨PyData.keyHash P (Str.ofString "expect_op"), (.str (Str.ofString "expect_op") 448), (.ref 202)⟩, ⟨PyData.keyHash P (Str.ofString "expect_key"), (.str (Str.ofString "expect_key") 456), (.ref 209)⟩, ⟨PyData.keyHash P (Str.ofString "expect_id"), (.str (Str.ofString "expect_id") 463), (.ref 216)⟩, ⟨PyData.keyHash P (Str.ofString "fail"), (.str (Str.ofString "fail") 473), (.ref 224)⟩, ⟨PyData.keyHash P (Str.ofString "__static_attributes__"), (.str (Str.ofString "__static_attributes__") 479), (.ref 225)⟩, ⟨PyData.keyHash P (Str.ofString "__dict__"), (.str (Str.ofString "__dict__") 481), (.ref 228)⟩, ⟨PyData.keyHash P (Str.ofString "__weakref__"), (.str (Str.ofString "__weakref__") 483), (.ref 229)⟩, ⟨PyData.keyHash P (Str.ofString "__doc__"), (.str (Str.ofString "__doc__") 484), .none⟩] 4), #[]⟩),
(227, ⟨(.type "type"), none, (.cls ⟨(Str.ofString "Cursor"), [(.type "object")], [(.ref 227), (.type "object")], 226, (Str.ofString "Cursor"), true, [], [], false, none, false⟩), #[none, none, (some (.str (Str.ofString "Cursor") 364)), (some (.str (Str.ofString "Cursor") 372)), (some (.builtin "object.__new__")), (some (.bool true))]⟩),
(235, ⟨(.type "code"), none, (.fields #[(.str (Str.ofString "_law_feed") 489), (.str (Str.ofString "_law_feed") 490), (.str (Str.ofString "/claim/cut.py") 491), (.int (156) 0), (.int (1) 0), (.int (0) 0), (.int (0) 0), (.int (3) 0), (.ref 232), (.bool true), (.int (181) 0), (.ref 233), .none, .none, .none, (.ref 234), (.int (492) 0), (.int (156) 0), (.str (Str.ofString "/claim/cut.py") 493)]), #[]⟩),
(236, ⟨(.type "function"), none, (.func (PySem.W.fnOf (Str.ofString "_law_feed") (Str.ofString "_law_feed") (sP (st 14)) (sB (st 14)) (sS (st 14)) .none .none .none (.str (Str.ofString "law_sj0033_01") 487) none (.ref 235) .none)), #[]⟩),
(242, ⟨(.type "code"), none, (.fields #[(.str (Str.ofString "_law_pick") 495), (.str (Str.ofString "_law_pick") 496), (.str (Str.ofString "/claim/cut.py") 497), (.int (159) 0), (.int (2) 0), (.int (0) 0), (.int (0) 0), (.int (3) 0), (.ref 237), (.bool true), (.int (181) 0), (.ref 238), .none, (.ref 239), (.ref 240), (.ref 241), (.int (501) 0), (.int (159) 0), (.str (Str.ofString "/claim/cut.py") 502)]), #[]⟩),
(243, ⟨(.type "function"), none, (.func (PySem.W.fnOf (Str.ofString "_law_pick") (Str.ofString "_law_pick") (sP (st 15)) (sB (st 15)) (sS (st 15)) .none .none .none (.str (Str.ofString "law_sj0033_01") 487) none (.ref 242) .none)), #[]⟩),
(249, ⟨(.type "code"), none, (.fields #[(.str (Str.ofString "_law_figure") 504), (.str (Str.ofString "_law_figure") 505), (.str (Str.ofString "/claim/cut.py") 506), (.int (169) 0), (.int (1) 0), (.int (0) 0), (.int (0) 0), (.int (3) 0), (.ref 244), (.bool true), (.int (181) 0), (.ref 245), .none, (.ref 246), (.ref 247), (.ref 248), (.int (511) 0), (.int (169) 0), (.str (Str.ofString "/claim/cut.py") 512)]), #[]⟩),
(250, ⟨(.type "function"), none, (.func (PySem.W.fnOf (Str.ofString "_law_figure") (Str.ofString "_law_figure") (sP (st 16)) (sB (st 16)) (sS (st 16)) .none .none .none (.str (Str.ofString "law_sj0033_01") 487) none (.ref 249) .none)), #[]⟩),
(256, ⟨(.type "code"), none, (.fields #[(.str (Str.ofString "_law_listed") 514), (.str (Str.ofString "_law_listed") 515), (.str (Str.ofString "/claim/cut.py") 516), (.int (174) 0), (.int (2) 0), (.int (0) 0), (.int (0) 0), (.int (3) 0), (.ref 251), (.bool true), (.int (181) 0), (.ref 252), .none, (.ref 253), (.ref 254), (.ref 255), (.int (524) 0), (.int (174) 0), (.str (Str.ofString "/claim/cut.py") 525)]), #[]⟩),
(257, ⟨(.type "function"), none, (.func (PySem.W.fnOf (Str.ofString "_law_listed") (Str.ofString "_law_listed") (sP (st 17)) (sB (st 17)) (sS (st 17)) .none .none .none (.str (Str.ofString "law_sj0033_01") 487) none (.ref 256) .none)), #[]⟩),
(263, ⟨(.type "code"), none, (.fields #[(.str (Str.ofString "_law_bracketed") 527), (.str (Str.ofString "_law_bracketed") 528), (.str (Str.ofString "/claim/cut.py") 529), (.int (197) 0), (.int (2) 0), (.int (0) 0), (.int (0) 0), (.int (3) 0), (.ref 258), (.bool true), (.int (181) 0), (.ref 259), .none, (.ref 260), (.ref 261), (.ref 262), (.int (535) 0), (.int (197) 0), (.str (Str.ofString "/claim/cut.py") 536)]), #[]⟩),
(264, ⟨(.type "function"), none, (.func (PySem.W.fnOf (Str.ofString "_law_bracketed") (Str.ofString "_law_bracketed") (sP (st 18)) (sB (st 18)) (sS (st 18)) .none .none .none (.str (Str.ofString "law_sj0033_01") 487) none (.ref 263) .none)), #[]⟩),
(270, ⟨(.type "code"), none, (.fields #[(.str (Str.ofString "_law_spoiled") 538), (.str (Str.ofString "_law_spoiled") 539), (.str (Str.ofString "/claim/cut.py") 540), (.int (212) 0), (.int (2) 0), (.int (0) 0), (.int (0) 0), (.int (3) 0), (.ref 265), (.bool true), (.int (181) 0), (.ref 266), .none, (.ref 267), (.ref 268), (.ref 269), (.int (548) 0), (.int (212) 0), (.str (Str.ofString "/claim/cut.py") 549)]), #[]⟩),
(271, ⟨(.type "function"), none, (.func (PySem.W.fnOf (Str.ofString "_law_spoiled") (Str.ofString "_law_spoiled") (sP (st 19)) (sB (st 19)) (sS (st 19)) .none .none .none (.str (Str.ofString "law_sj0033_01") 487) none (.ref 270) .none)), #[]⟩),
(275, ⟨(.type "code"), none, (.fields #[(.str (Str.ofString "_law_placed") 551), (.str (Str.ofString "_law_placed") 552), (.str (Str.ofString "/claim/cut.py") 553), (.int (221) 0), (.int (1) 0), (.int (0) 0), (.int (0) 0), (.int (3) 0), (.ref 272), (.bool true), (.int (181) 0), (.ref 273), .none, .none, .none, (.ref 274), (.int (554) 0), (.int (221) 0), (.str (Str.ofString "/claim/cut.py") 555)]), #[]⟩),
(276, ⟨(.type "function"), none, (.func (PySem.W.fnOf (Str.ofString "_law_placed") (Str.ofString "_law_placed") (sP (st 20)) (sB (st 20)) (sS (st 20)) .none .none .none (.str (Str.ofString "law_sj0033_01") 487) none (.ref 275) .none)), #[]⟩),
(282, ⟨(.type "code"), none, (.fields #[(.str (Str.ofString "_law_moves") 557), (.str (Str.ofString "_law_moves") 558), (.str (Str.ofString "/claim/cut.py") 559), (.int (223) 0), (.int (0) 0), (.int (0) 0), (.int (0) 0), (.int (3) 0), (.ref 277), (.bool true), (.int (181) 0), (.ref 278), .none, (.ref 279), (.ref 280), (.ref 281), (.int (564) 0), (.int (223) 0), (.str (Str.ofString "/claim/cut.py") 565)]), #[]⟩),
(283, ⟨(.type "function"), none, (.func (PySem.W.fnOf (Str.ofString "_law_moves") (Str.ofString "_law_moves") (sP (st 21)) (sB (st 21)) (sS (st 21)) .none .none .none (.str (Str.ofString "law_sj0033_01") 487) none (.ref 282) .none)), #[]⟩),
(289, ⟨(.type "code"), none, (.fields #[(.str (Str.ofString "_law_word") 567), (.str (Str.ofString "_law_word") 568), (.str (Str.ofString "/claim/cut.py") 569), (.int (237) 0), (.int (3) 0), (.int (0) 0), (.int (0) 0), (.int (3) 0), (.ref 284), (.bool true), (.int (181) 0), (.ref 285), .none, (.ref 286), (.ref 287), (.ref 288), (.int (573) 0), (.int (237) 0), (.str (Str.ofString "/claim/cut.py") 574)]), #[]⟩),
(290, ⟨(.type "function"), none, (.func (PySem.W.fnOf (Str.ofString "_law_word") (Str.ofString "_law_word") (sP (st 22)) (sB (st 22)) (sS (st 22)) .none .none .none (.str (Str.ofString "law_sj0033_01") 487) none (.ref 289) .none)), #[]⟩),
(296, ⟨(.type "code"), none, (.fields #[(.str (Str.ofString "_law_due") 576), (.str (Str.ofString "_law_due") 577), (.str (Str.ofString "/claim/cut.py") 578), (.int (247) 0), (.int (4) 0), (.int (0) 0), (.int (0) 0), (.int (3) 0), (.ref 291), (.bool true), (.int (181) 0), (.ref 292), .none, (.ref 293), (.ref 294), (.ref 295), (.int (591) 0), (.int (247) 0), (.str (Str.ofString "/claim/cut.py") 592)]), #[]⟩),
(297, ⟨(.type "function"), none, (.func (PySem.W.fnOf (Str.ofString "_law_due") (Str.ofString "_law_due") (sP (st 23)) (sB (st 23)) (sS (st 23)) .none .none .none (.str (Str.ofString "law_sj0033_01") 487) none (.ref 296) .none)), #[]⟩),
(301, ⟨(.type "code"), none, (.fields #[(.str (Str.ofString "_law_right") 594), (.str (Str.ofString "_law_right") 595), (.str (Str.ofString "/claim/cut.py") 596), (.int (269) 0), (.int (4) 0), (.int (0) 0), (.int (0) 0), (.int (3) 0), (.ref 298), (.bool true), (.int (181) 0), (.ref 299), .none, .none, .none, (.ref 300), (.int (597) 0), (.int (269) 0), (.str (Str.ofString "/claim/cut.py") 598)]), #[]⟩),
(302, ⟨(.type "function"), none, (.func (PySem.W.fnOf (Str.ofString "_law_right") (Str.ofString "_law_right") (sP (st 24)) (sB (st 24)) (sS (st 24)) .none .none .none (.str (Str.ofString "law_sj0033_01") 487) none (.ref 301) .none)), #[]⟩),
(306, ⟨(.type "code"), none, (.fields #[(.str (Str.ofString "law") 600), (.str (Str.ofString "law") 601), (.str (Str.ofString "/claim/cut.py") 602), (.int (289) 0), (.int (1) 0), (.int (0) 0), (.int (0) 0), (.int (3) 0), (.ref 303), (.bool true), (.int (181) 0), (.ref 304), .none, .none, .none, (.ref 305), (.int (603) 0), (.int (289) 0), (.str (Str.ofString "/claim/cut.py") 604)]), #[]⟩),
(307, ⟨(.type "function"), none, (.func (PySem.W.fnOf (Str.ofString "law") (Str.ofString "law") (sP (st 25)) (sB (st 25)) (sS (st 25)) .none .none .none (.str (Str.ofString "law_sj0033_01") 487) none (.ref 306) .none)), #[]⟩)]
noncomputable def K0a : List Addr := [3, 27, 28, 34, 35, 41, 42, 48, 49, 57, 63, 64, 66, 67, 79, 80, 95, 96, 98, 99, 116, 117, 123, 124, 126, 127, 144, 145, 151, 152, 166, 167, 173, 174, 180, 181, 187, 188, 194, 195, 201, 202, 208, 209, 215, 216, 217, 223, 224, 226, 227, 235, 236, 242, 243, 249, 250, 256, 257, 263, 264, 270, 271, 275, 276, 282, 283, 289, 290, 296, 297, 301, 302, 306, 307]
noncomputable def keepB : Stmt -> Bool
  | .FunctionDef .. => true
  | .ClassDef .. => true
  | _ => false
noncomputable def qv : Program := { pw_sj0033_01 with main := { pw_sj0033_01.main with body := pw_sj0033_01.main.body.filter keepB } }
set_option tactic.hygienic false
theorem K0_as : ∀ P, K0a = (K0 P).map (·.1) := fun P => by kernel_rfl
end Mine
end

section
open PySem PySem.W PyProof.Rows
namespace Mine
noncomputable abbrev n_Cursor : N := [67, 117, 114, 115, 111, 114]
noncomputable def CA0 (c : N) : Option Addr := match leq c n_Token with
  | true => some 99
  | false => match leq c n_TokenRow with
    | true => some 127
    | false => match leq c n_Cursor with
      | true => some 227
      | false => none
set_option tactic.hygienic false
theorem CA0_cases {c : N} {C : Addr} (h : CA0 c = some C) : C = 99 \/ C = 127 \/ C = 227 := by
  unfold CA0 at h
  split at h
  · cases h; exact .inl rfl
  · split at h
    · cases h; exact .inr (.inl rfl)
    · split at h
      · cases h; exact .inr (.inr rfl)
      · cases h
theorem attr_cases {Pr : Str -> Prop} (h : ∀ l ∈ attrNs, Pr (mk l)) (x : Str) (hx : memN attrNs x.cps.toList = true) : Pr x := by
  have := h _ (memN_iff.mp hx)
  rwa [mk_eq] at this
section
variable (P : Params)
theorem kok_get (C : Addr) (h : C = 99 \/ C = 127 \/ C = 227) (x : Str) : plainGet (K0 P) C x = true := by
  rcases h with rfl | rfl | rfl <;> kernel_rfl
theorem kok_hd (C : Addr) (h : C = 99 \/ C = 127 \/ C = 227) : hasDictIn (K0 P) C = true := by
  rcases h with rfl | rfl | rfl <;> kernel_rfl
theorem kok_sat (C : Addr) (h : C = 99 \/ C = 127 \/ C = 227) : findIn (K0 P) (.ref C) "__setattr__" = some (some (.builtin "object.__setattr__")) := by
  rcases h with rfl | rfl | rfl <;> kernel_rfl
theorem kok_over (C : Addr) (h : C = 99 \/ C = 127 \/ C = 227) : plainOver (K0 P) C = true := by
  rcases h with rfl | rfl | rfl <;> kernel_rfl
theorem all_of {α : Type} {p : α -> Bool} {l : List α} (h : l.all p = true) : ∀ x ∈ l, p x = true := List.all_eq_true.mp h
theorem kok_attr (C : Addr) (h : C = 99 \/ C = 127 \/ C = 227) : ∀ l ∈ attrNs, findIn (K0 P) (.ref C) (mk l) = some none := by
  intro l hl
  simp only [attrNs, List.mem_cons, List.not_mem_nil, or_false] at hl
  rcases h with rfl | rfl | rfl <;> rcases hl with rfl | rfl | rfl | rfl | rfl | rfl | rfl | rfl | rfl | rfl <;> kernel_rfl
theorem kok_tak (C : Addr) (h : C = 99 \/ C = 127 \/ C = 227) : ∀ l ∈ attrNs, takerIn (K0 P) C (mk l) = some none := fun l hl => by
  unfold takerIn
  rw [kok_attr P C h l hl]
  rfl
theorem kok0 : KOk (K0 P) CA0 where
  get := fun c C h x => kok_get P C (CA0_cases h) x
  hd := fun c C h => kok_hd P C (CA0_cases h)
  attr := fun c C h x hx => attr_cases (Pr := fun x => findIn (K0 P) (.ref C) x = some none) (kok_attr P C (CA0_cases h)) x hx
  sat := fun c C h => kok_sat P C (CA0_cases h)
  over := fun c C h => kok_over P C (CA0_cases h)
  tak := fun c C h x hx => attr_cases (Pr := fun x => takerIn (K0 P) C x = some none) (kok_tak P C (CA0_cases h)) x hx
end
end Mine
end

section
open PySem PySem.W PyProof.Rows
namespace Mine
noncomputable def fx (S : Stmt) : Fn := match S with
  | .FunctionDef name args body _ _ _ sc _ _ _ => mkFn name args body sc
  | _ => ⟨[], [], [], [], []⟩
noncomputable def pnOf (S : Stmt) : List Str := (sP S).args.map fun a => match a with | ⟨x, _, _⟩ => x
set_option tactic.hygienic false
theorem nodup_str {l : List Str} (h : nodupN (l.map fun x => x.cps.toList) = true) : l.Nodup :=
  (List.pairwise_map.mp (nodupN_iff h)).imp fun h e => h (by rw [e])
theorem no_cell {l : List (Str × NameKind)} (h : (l.all fun x => match x.2 with | .cell => false | _ => true) = true) : ∀ x ∈ l, x.2 ≠ .cell := fun x hx e => by
  have := List.all_eq_true.mp h x hx
  simp only [e] at this
  cases this
@[elab_as_elim] theorem of_len0 {p : List Value -> Prop} {vs : List Value} (h : vs.length = 0) (k : p []) : p vs := by
  cases vs with
  | nil => exact k
  | cons a r => cases h
@[elab_as_elim] theorem of_len1 {p : List Value -> Prop} {vs : List Value} (h : vs.length = 1) (k : ∀ a, p [a]) : p vs := by
  cases vs with
  | nil => cases h
  | cons a r => exact of_len0 (vs := r) (Nat.succ.inj h) (k a)
@[elab_as_elim] theorem of_len2 {p : List Value -> Prop} {vs : List Value} (h : vs.length = 2) (k : ∀ a b, p [a, b]) : p vs := by
  cases vs with
  | nil => cases h
  | cons a r => exact of_len1 (vs := r) (Nat.succ.inj h) (k a)
@[elab_as_elim] theorem of_len3 {p : List Value -> Prop} {vs : List Value} (h : vs.length = 3) (k : ∀ a b c, p [a, b, c]) : p vs := by
  cases vs with
  | nil => cases h
  | cons a r => exact of_len2 (vs := r) (Nat.succ.inj h) (k a)
@[elab_as_elim] theorem of_len4 {p : List Value -> Prop} {vs : List Value} (h : vs.length = 4) (k : ∀ a b c d, p [a, b, c, d]) : p vs := by
  cases vs with
  | nil => cases h
  | cons a r => exact of_len3 (vs := r) (Nat.succ.inj h) (k a)
section
variable (prog : Program) (w : World) (P : Params)
theorem fnOk_of {S : Stmt} {fa : Addr} {name qual : Str} {pm cdv : Value} (hl : (K0 P).lookup fa = some ⟨.type "function", none, .func (PySem.W.fnOf name qual (sP S) (sB S) (sS S) .none .none .none pm none cdv .none), #[]⟩)
    (hb : (fx S).body = sB S) (hsc : (fx S).sc = (sS S).names) (hp : (fx S).params = (pnOf S).map fun x => x.cps.toList) (hd : (fx S).dflt = [])
    (hc : codeIn (K0 P) cdv qual = true) (h1 : (sS S).isCoroutine = false) (h2 : (sS S).isGenerator = false) (h3 : (sS S).kind = .function)
    (h4 : ((sS S).names.all fun x => match x.2 with | .cell => false | _ => true) = true) (h5 : ((pnOf S).all fun x => isLoc (sS S).names x.cps.toList) = true) (h6 : nodupN ((pnOf S).map fun x => x.cps.toList) = true)
    (hbt : ∀ s vs, (K0 P).In s.heap -> vs.length = (pnOf S).length -> BindsTo s (PySem.W.fnOf name qual (sP S) (sB S) (sS S) .none .none .none pm none cdv .none) ⟨vs, []⟩ ((pnOf S).zip vs)) : FnOk prog w CA0 (K0 P) (fx S) fa :=
  ⟨name, qual, sP S, sS S, .none, .none, .none, pm, none, cdv, .none, _, _, _, pnOf S, by rw [hb]; exact hl, hc, hsc.symm, h1, h2, h3, no_cell h4, hp.symm, fun x hx => List.all_eq_true.mp h5 x hx, nodup_str h6, by rw [hb]; exact hbt, fun dv ds e => by rw [hd] at e; cases e⟩
theorem fo_28 : FnOk prog w CA0 (K0 P) (fx (st 2)) 28 := by
  apply fnOk_of prog w P (name := (Str.ofString "ansi_ports")) (qual := (Str.ofString "ansi_ports")) (pm := (.str (Str.ofString "gateloom.udps") 194)) (cdv := (.ref 27)) <;> first | kernel_rfl | exact fun s vs _ hv => of_len1 (vs := vs) hv fun a => BindsTo.of_eq (by kernel_rfl)
theorem fo_35 : FnOk prog w CA0 (K0 P) (fx (st 3)) 35 := by
  apply fnOk_of prog w P (name := (Str.ofString "port_declarations")) (qual := (Str.ofString "port_declarations")) (pm := (.str (Str.ofString "gateloom.udps") 194)) (cdv := (.ref 34)) <;> first | kernel_rfl | exact fun s vs _ hv => of_len2 (vs := vs) hv fun a b => BindsTo.of_eq (by kernel_rfl)
theorem fo_42 : FnOk prog w CA0 (K0 P) (fx (st 4)) 42 := by
  apply fnOk_of prog w P (name := (Str.ofString "initial_code")) (qual := (Str.ofString "initial_code")) (pm := (.str (Str.ofString "gateloom.udps") 194)) (cdv := (.ref 41)) <;> first | kernel_rfl | exact fun s vs _ hv => of_len1 (vs := vs) hv fun a => BindsTo.of_eq (by kernel_rfl)
theorem fo_49 : FnOk prog w CA0 (K0 P) (fx (st 5)) 49 := by
  apply fnOk_of prog w P (name := (Str.ofString "level_codes")) (qual := (Str.ofString "level_codes")) (pm := (.str (Str.ofString "gateloom.udps") 194)) (cdv := (.ref 48)) <;> first | kernel_rfl | exact fun s vs _ hv => of_len1 (vs := vs) hv fun a => BindsTo.of_eq (by kernel_rfl)
theorem fo_250 : FnOk prog w CA0 (K0 P) (fx (st 16)) 250 := by
  apply fnOk_of prog w P (name := (Str.ofString "_law_figure")) (qual := (Str.ofString "_law_figure")) (pm := (.str (Str.ofString "law_sj0033_01") 487)) (cdv := (.ref 249)) <;> first | kernel_rfl | exact fun s vs _ hv => of_len1 (vs := vs) hv fun a => BindsTo.of_eq (by kernel_rfl)
theorem fo_257 : FnOk prog w CA0 (K0 P) (fx (st 17)) 257 := by
  apply fnOk_of prog w P (name := (Str.ofString "_law_listed")) (qual := (Str.ofString "_law_listed")) (pm := (.str (Str.ofString "law_sj0033_01") 487)) (cdv := (.ref 256)) <;> first | kernel_rfl | exact fun s vs _ hv => of_len2 (vs := vs) hv fun a b => BindsTo.of_eq (by kernel_rfl)
theorem fo_264 : FnOk prog w CA0 (K0 P) (fx (st 18)) 264 := by
  apply fnOk_of prog w P (name := (Str.ofString "_law_bracketed")) (qual := (Str.ofString "_law_bracketed")) (pm := (.str (Str.ofString "law_sj0033_01") 487)) (cdv := (.ref 263)) <;> first | kernel_rfl | exact fun s vs _ hv => of_len2 (vs := vs) hv fun a b => BindsTo.of_eq (by kernel_rfl)
theorem fo_271 : FnOk prog w CA0 (K0 P) (fx (st 19)) 271 := by
  apply fnOk_of prog w P (name := (Str.ofString "_law_spoiled")) (qual := (Str.ofString "_law_spoiled")) (pm := (.str (Str.ofString "law_sj0033_01") 487)) (cdv := (.ref 270)) <;> first | kernel_rfl | exact fun s vs _ hv => of_len2 (vs := vs) hv fun a b => BindsTo.of_eq (by kernel_rfl)
theorem fo_290 : FnOk prog w CA0 (K0 P) (fx (st 22)) 290 := by
  apply fnOk_of prog w P (name := (Str.ofString "_law_word")) (qual := (Str.ofString "_law_word")) (pm := (.str (Str.ofString "law_sj0033_01") 487)) (cdv := (.ref 289)) <;> first | kernel_rfl | exact fun s vs _ hv => of_len3 (vs := vs) hv fun a b c => BindsTo.of_eq (by kernel_rfl)
theorem fo_297 : FnOk prog w CA0 (K0 P) (fx (st 23)) 297 := by
  apply fnOk_of prog w P (name := (Str.ofString "_law_due")) (qual := (Str.ofString "_law_due")) (pm := (.str (Str.ofString "law_sj0033_01") 487)) (cdv := (.ref 296)) <;> first | kernel_rfl | exact fun s vs _ hv => of_len4 (vs := vs) hv fun a b c d => BindsTo.of_eq (by kernel_rfl)
theorem fo_145 : FnOk prog w CA0 (K0 P) (fx (ms 12 0)) 145 := by
  apply fnOk_of prog w P (name := (Str.ofString "__init__")) (qual := (Str.ofString "Cursor.__init__")) (pm := (.str (Str.ofString "gateloom.tokens") 290)) (cdv := (.ref 144)) <;> first | kernel_rfl | exact fun s vs _ hv => of_len2 (vs := vs) hv fun a b => BindsTo.of_eq (by kernel_rfl)
theorem fo_152 : FnOk prog w CA0 (K0 P) (fx (ms 12 1)) 152 := by
  apply fnOk_of prog w P (name := (Str.ofString "fetch")) (qual := (Str.ofString "Cursor.fetch")) (pm := (.str (Str.ofString "gateloom.tokens") 290)) (cdv := (.ref 151)) <;> first | kernel_rfl | exact fun s vs _ hv => of_len1 (vs := vs) hv fun a => BindsTo.of_eq (by kernel_rfl)
theorem fo_167 : FnOk prog w CA0 (K0 P) (fx (ms 12 3)) 167 := by
  apply fnOk_of prog w P (name := (Str.ofString "take")) (qual := (Str.ofString "Cursor.take")) (pm := (.str (Str.ofString "gateloom.tokens") 290)) (cdv := (.ref 166)) <;> first | kernel_rfl | exact fun s vs _ hv => of_len1 (vs := vs) hv fun a => BindsTo.of_eq (by kernel_rfl)
theorem fo_174 : FnOk prog w CA0 (K0 P) (fx (ms 12 4)) 174 := by
  apply fnOk_of prog w P (name := (Str.ofString "is_op")) (qual := (Str.ofString "Cursor.is_op")) (pm := (.str (Str.ofString "gateloom.tokens") 290)) (cdv := (.ref 173)) <;> first | kernel_rfl | exact fun s vs _ hv => of_len2 (vs := vs) hv fun a b => BindsTo.of_eq (by kernel_rfl)
theorem fo_181 : FnOk prog w CA0 (K0 P) (fx (ms 12 5)) 181 := by
  apply fnOk_of prog w P (name := (Str.ofString "is_key")) (qual := (Str.ofString "Cursor.is_key")) (pm := (.str (Str.ofString "gateloom.tokens") 290)) (cdv := (.ref 180)) <;> first | kernel_rfl | exact fun s vs _ hv => of_len2 (vs := vs) hv fun a b => BindsTo.of_eq (by kernel_rfl)
theorem fo_188 : FnOk prog w CA0 (K0 P) (fx (ms 12 6)) 188 := by
  apply fnOk_of prog w P (name := (Str.ofString "accept_op")) (qual := (Str.ofString "Cursor.accept_op")) (pm := (.str (Str.ofString "gateloom.tokens") 290)) (cdv := (.ref 187)) <;> first | kernel_rfl | exact fun s vs _ hv => of_len2 (vs := vs) hv fun a b => BindsTo.of_eq (by kernel_rfl)
theorem fo_195 : FnOk prog w CA0 (K0 P) (fx (ms 12 7)) 195 := by
  apply fnOk_of prog w P (name := (Str.ofString "accept_key")) (qual := (Str.ofString "Cursor.accept_key")) (pm := (.str (Str.ofString "gateloom.tokens") 290)) (cdv := (.ref 194)) <;> first | kernel_rfl | exact fun s vs _ hv => of_len2 (vs := vs) hv fun a b => BindsTo.of_eq (by kernel_rfl)
theorem fo_202 : FnOk prog w CA0 (K0 P) (fx (ms 12 8)) 202 := by
  apply fnOk_of prog w P (name := (Str.ofString "expect_op")) (qual := (Str.ofString "Cursor.expect_op")) (pm := (.str (Str.ofString "gateloom.tokens") 290)) (cdv := (.ref 201)) <;> first | kernel_rfl | exact fun s vs _ hv => of_len2 (vs := vs) hv fun a b => BindsTo.of_eq (by kernel_rfl)
theorem fo_209 : FnOk prog w CA0 (K0 P) (fx (ms 12 9)) 209 := by
  apply fnOk_of prog w P (name := (Str.ofString "expect_key")) (qual := (Str.ofString "Cursor.expect_key")) (pm := (.str (Str.ofString "gateloom.tokens") 290)) (cdv := (.ref 208)) <;> first | kernel_rfl | exact fun s vs _ hv => of_len2 (vs := vs) hv fun a b => BindsTo.of_eq (by kernel_rfl)
theorem fo_216 : FnOk prog w CA0 (K0 P) (fx (ms 12 10)) 216 := by
  apply fnOk_of prog w P (name := (Str.ofString "expect_id")) (qual := (Str.ofString "Cursor.expect_id")) (pm := (.str (Str.ofString "gateloom.tokens") 290)) (cdv := (.ref 215)) <;> first | kernel_rfl | exact fun s vs _ hv => of_len1 (vs := vs) hv fun a => BindsTo.of_eq (by kernel_rfl)
theorem fo_243 : FnOk prog w CA0 (K0 P) (fx (st 15)) 243 := by
  apply fnOk_of prog w P (name := (Str.ofString "_law_pick")) (qual := (Str.ofString "_law_pick")) (pm := (.str (Str.ofString "law_sj0033_01") 487)) (cdv := (.ref 242)) <;> first | kernel_rfl | exact fun s vs _ hv => of_len2 (vs := vs) hv fun a b => BindsTo.of_eq (by kernel_rfl)
theorem fo_283 : FnOk prog w CA0 (K0 P) (fx (st 21)) 283 := by
  apply fnOk_of prog w P (name := (Str.ofString "_law_moves")) (qual := (Str.ofString "_law_moves")) (pm := (.str (Str.ofString "law_sj0033_01") 487)) (cdv := (.ref 282)) <;> first | kernel_rfl | exact fun s vs _ hv => of_len0 (vs := vs) hv (BindsTo.of_eq (by kernel_rfl))
theorem fo_302 : FnOk prog w CA0 (K0 P) (fx (st 24)) 302 := by
  apply fnOk_of prog w P (name := (Str.ofString "_law_right")) (qual := (Str.ofString "_law_right")) (pm := (.str (Str.ofString "law_sj0033_01") 487)) (cdv := (.ref 301)) <;> first | kernel_rfl | exact fun s vs _ hv => of_len4 (vs := vs) hv fun a b c d => BindsTo.of_eq (by kernel_rfl)
theorem fo_96 : FnOk prog w CA0 (K0 P) (fx (ms 10 0)) 96 := by
  apply fnOk_of prog w P (name := (Str.ofString "__init__")) (qual := (Str.ofString "Token.__init__")) (pm := (.str (Str.ofString "gateloom.tokens") 290)) (cdv := (.ref 95)) <;> first | kernel_rfl | exact fun s vs _ hv => of_len4 (vs := vs) hv fun a b c d => BindsTo.of_eq (by kernel_rfl)
theorem fo_117 : FnOk prog w CA0 (K0 P) (fx (ms 11 0)) 117 := by
  apply fnOk_of prog w P (name := (Str.ofString "__init__")) (qual := (Str.ofString "TokenRow.__init__")) (pm := (.str (Str.ofString "gateloom.tokens") 290)) (cdv := (.ref 116)) <;> first | kernel_rfl | exact fun s vs _ hv => of_len2 (vs := vs) hv fun a b => BindsTo.of_eq (by kernel_rfl)
theorem fo_124 : FnOk prog w CA0 (K0 P) (fx (ms 11 1)) 124 := by
  apply fnOk_of prog w P (name := (Str.ofString "next_token")) (qual := (Str.ofString "TokenRow.next_token")) (pm := (.str (Str.ofString "gateloom.tokens") 290)) (cdv := (.ref 123)) <;> first | kernel_rfl | exact fun s vs _ hv => of_len1 (vs := vs) hv fun a => BindsTo.of_eq (by kernel_rfl)
theorem fo_236 : FnOk prog w CA0 (K0 P) (fx (st 14)) 236 := by
  apply fnOk_of prog w P (name := (Str.ofString "_law_feed")) (qual := (Str.ofString "_law_feed")) (pm := (.str (Str.ofString "law_sj0033_01") 487)) (cdv := (.ref 235)) <;> first | kernel_rfl | exact fun s vs _ hv => of_len1 (vs := vs) hv fun a => BindsTo.of_eq (by kernel_rfl)
end
end Mine
end

section
open PySem PySem.W PyProof.Rows
namespace Mine
section
variable (prog : Program) (w : World) (P : Params)
set_option tactic.hygienic false
theorem k217 : (K0 P).lookup 217 = some ⟨.type "tuple", none, .seq #[.str (Str.ofString "") 464] 0, #[]⟩ := by kernel_rfl
theorem fo_224 : FnOk prog w CA0 (K0 P) (fx (ms 12 11)) 224 := by
  have hb : (fx (ms 12 11)).body = sB (ms 12 11) := by kernel_rfl
  have hl : (K0 P).lookup 224 = some ⟨.type "function", none, .func (PySem.W.fnOf (Str.ofString "fail") (Str.ofString "Cursor.fail") (sP (ms 12 11)) (sB (ms 12 11)) (sS (ms 12 11)) (.ref 217) .none .none (.str (Str.ofString "gateloom.tokens") 290) none (.ref 223) .none), #[]⟩ := by kernel_rfl
  refine ⟨(Str.ofString "fail"), (Str.ofString "Cursor.fail"), sP (ms 12 11), sS (ms 12 11), (.ref 217), .none, .none, (.str (Str.ofString "gateloom.tokens") 290), none, (.ref 223), .none, _, _, _, pnOf (ms 12 11), by rw [hb]; exact hl, by kernel_rfl, by kernel_rfl, by kernel_rfl, by kernel_rfl, by kernel_rfl, no_cell (by kernel_rfl), by kernel_rfl, fun x hx => all_of (p := fun x => isLoc (sS (ms 12 11)).names x.cps.toList) (l := pnOf (ms 12 11)) (by kernel_rfl) x hx, nodup_str (by kernel_rfl), ?_, ?_⟩
  · rw [hb]
    intro s vs X hv
    exact of_len3 (vs := vs) hv fun a b c => binds_K (T := 217) X rfl (k217 P) rfl rfl rfl
  · rw [hb]
    intro d ds e
    have e' : d :: ds = [.str []] := e.symm
    cases e'
    refine ⟨.str (Str.ofString "") 464, fun pin H news φ => .str _ _ _ (by decide +kernel) rfl, fun s vs X hv => ?_⟩
    exact of_len2 (vs := vs) (Nat.succ.inj hv) fun a b => binds_K (T := 217) X rfl (k217 P) rfl rfl rfl
set_option tactic.hygienic true
theorem find_mem {α : Type} : ∀ {l : List (N × α)} {x : N} {a : α}, find l x = some a -> (x, a) ∈ l
  | [], x, a, h => by cases h
  | (k, b) :: r, x, a, h => by
    unfold find at h
    split at h
    · rename_i q
      cases h
      rw [leq_iff.mp q]
      exact .head _
    · exact .tail _ (find_mem h)
set_option tactic.hygienic false
theorem T0_fns : T0.fns = [([97, 110, 115, 105, 95, 112, 111, 114, 116, 115], fx (st 2)), ([112, 111, 114, 116, 95, 100, 101, 99, 108, 97, 114, 97, 116, 105, 111, 110, 115], fx (st 3)), ([105, 110, 105, 116, 105, 97, 108, 95, 99, 111, 100, 101], fx (st 4)), ([108, 101, 118, 101, 108, 95, 99, 111, 100, 101, 115], fx (st 5)), ([95, 108, 97, 119, 95, 102, 105, 103, 117, 114, 101], fx (st 16)), ([95, 108, 97, 119, 95, 108, 105, 115, 116, 101, 100], fx (st 17)), ([95, 108, 97, 119, 95, 98, 114, 97, 99, 107, 101, 116, 101, 100], fx (st 18)), ([95, 108, 97, 119, 95, 115, 112, 111, 105, 108, 101, 100], fx (st 19)), ([95, 108, 97, 119, 95, 119, 111, 114, 100], fx (st 22)), ([95, 108, 97, 119, 95, 100, 117, 101], fx (st 23))] := by kernel_rfl
theorem T0_cls : T0.cls = [(n_TokenRow, [([95, 95, 105, 110, 105, 116, 95, 95], fx (ms 11 0))]), (n_Cursor, [([95, 95, 105, 110, 105, 116, 95, 95], fx (ms 12 0)), ([102, 101, 116, 99, 104], fx (ms 12 1)), ([116, 97, 107, 101], fx (ms 12 3)), ([105, 115, 95, 111, 112], fx (ms 12 4)), ([105, 115, 95, 107, 101, 121], fx (ms 12 5)), ([97, 99, 99, 101, 112, 116, 95, 111, 112], fx (ms 12 6)), ([97, 99, 99, 101, 112, 116, 95, 107, 101, 121], fx (ms 12 7)), ([101, 120, 112, 101, 99, 116, 95, 111, 112], fx (ms 12 8)), ([101, 120, 112, 101, 99, 116, 95, 107, 101, 121], fx (ms 12 9)), ([101, 120, 112, 101, 99, 116, 95, 105, 100], fx (ms 12 10)), ([102, 97, 105, 108], fx (ms 12 11))])] := by kernel_rfl
theorem tab0 : TabOk prog w CA0 (K0 P) T0 where
  fns := fun f fn h => by
    have := find_mem h
    rw [T0_fns] at this
    simp only [List.mem_cons, List.not_mem_nil, or_false, Prod.mk.injEq] at this
    rcases this with ⟨rfl, rfl⟩ | ⟨rfl, rfl⟩ | ⟨rfl, rfl⟩ | ⟨rfl, rfl⟩ | ⟨rfl, rfl⟩ | ⟨rfl, rfl⟩ | ⟨rfl, rfl⟩ | ⟨rfl, rfl⟩ | ⟨rfl, rfl⟩ | ⟨rfl, rfl⟩
    · exact ⟨28, by kernel_rfl, by kernel_rfl, fo_28 prog w P⟩
    · exact ⟨35, by kernel_rfl, by kernel_rfl, fo_35 prog w P⟩
    · exact ⟨42, by kernel_rfl, by kernel_rfl, fo_42 prog w P⟩
    · exact ⟨49, by kernel_rfl, by kernel_rfl, fo_49 prog w P⟩
    · exact ⟨250, by kernel_rfl, by kernel_rfl, fo_250 prog w P⟩
    · exact ⟨257, by kernel_rfl, by kernel_rfl, fo_257 prog w P⟩
    · exact ⟨264, by kernel_rfl, by kernel_rfl, fo_264 prog w P⟩
    · exact ⟨271, by kernel_rfl, by kernel_rfl, fo_271 prog w P⟩
    · exact ⟨290, by kernel_rfl, by kernel_rfl, fo_290 prog w P⟩
    · exact ⟨297, by kernel_rfl, by kernel_rfl, fo_297 prog w P⟩
  cls := fun c ms h hr => by
    have := find_mem h
    rw [T0_cls] at this
    simp only [List.mem_cons, List.not_mem_nil, or_false, Prod.mk.injEq] at this
    rcases this with ⟨rfl, rfl⟩ | ⟨rfl, rfl⟩
    · cases hr
    · refine ⟨227, rfl, by kernel_rfl, by kernel_rfl, by kernel_rfl, fun f fn hf => ?_⟩
      have := find_mem hf
      simp only [List.mem_cons, List.not_mem_nil, or_false, Prod.mk.injEq] at this
      rcases this with ⟨rfl, rfl⟩ | ⟨rfl, rfl⟩ | ⟨rfl, rfl⟩ | ⟨rfl, rfl⟩ | ⟨rfl, rfl⟩ | ⟨rfl, rfl⟩ | ⟨rfl, rfl⟩ | ⟨rfl, rfl⟩ | ⟨rfl, rfl⟩ | ⟨rfl, rfl⟩ | ⟨rfl, rfl⟩
      · exact ⟨145, by kernel_rfl, by kernel_rfl, by kernel_rfl, fo_145 prog w P⟩
      · exact ⟨152, by kernel_rfl, by kernel_rfl, by kernel_rfl, fo_152 prog w P⟩
      · exact ⟨167, by kernel_rfl, by kernel_rfl, by kernel_rfl, fo_167 prog w P⟩
      · exact ⟨174, by kernel_rfl, by kernel_rfl, by kernel_rfl, fo_174 prog w P⟩
      · exact ⟨181, by kernel_rfl, by kernel_rfl, by kernel_rfl, fo_181 prog w P⟩
      · exact ⟨188, by kernel_rfl, by kernel_rfl, by kernel_rfl, fo_188 prog w P⟩
      · exact ⟨195, by kernel_rfl, by kernel_rfl, by kernel_rfl, fo_195 prog w P⟩
      · exact ⟨202, by kernel_rfl, by kernel_rfl, by kernel_rfl, fo_202 prog w P⟩
      · exact ⟨209, by kernel_rfl, by kernel_rfl, by kernel_rfl, fo_209 prog w P⟩
      · exact ⟨216, by kernel_rfl, by kernel_rfl, by kernel_rfl, fo_216 prog w P⟩
      · exact ⟨224, by kernel_rfl, by kernel_rfl, by kernel_rfl, fo_224 prog w P⟩
  none := fun f hf => by
    simp only [List.mem_cons, List.not_mem_nil, or_false] at hf
    rcases hf with rfl | rfl | rfl | rfl | rfl <;> kernel_rfl
end
end Mine
end

section
open PySem PySem.W PyProof.Rows
namespace Mine
section
variable {Z : Wd} {n : Nat}
set_option tactic.hygienic false
theorem enter_def {A : Around} {env top : PySem.Env} {outer : List PySem.Env} {h₀ : Heap} {L : Addr} {sc : List (Str × NameKind)} {fn : Fn} {fa : Addr} {vs : List Value} {xs bs : List V} {σ : Hp} {h : Heap} {m : Str -> Option Value} {news : Led} {φ : List Addr} {tk : Nat} {Q E : Value -> Shared -> Prop}
    (FO : FnOk Z.prog Z.w Z.CA Z.K fn fa) (C : CxZ Z A env top outer h₀ L sc (n + 1)) (S : SimZ Z h₀ L m h news φ σ) (rv : VRsZ Z news φ vs xs) (hb : bindA fn.params xs fn.dflt = some bs)
    (body : ∀ {A' : Around} {env' : PySem.Env} {L' : Addr} {g₀ h₁ : Heap} {m' : Str -> Option Value} {tk₁ : Nat} {Q' : PySem.Flow -> Shared -> Prop} {E' : Value -> Shared -> Prop},
      CxZ Z A' env' env' (top :: outer) g₀ L' fn.sc n -> Own env' env' L' -> SimZ Z g₀ L' m' h₁ news φ σ -> LO Z env' L' news φ m' ⟨fn.nm, fn.sc, fn.params, bs⟩ -> PassesOwn (model Z.prog Z.w) A' env' E' ->
      (∀ {v : Value} {fl : PySem.Flow} {h' : Heap} {tk' : Nat} {m₂ : Str -> Option Value} {news' : Led} {φ' : List Addr} {σ' : Hp}, (fl = .ret v \/ (fl = .next /\ v = .none)) -> SimZ Z g₀ L' m₂ h' news' φ' σ' -> (SimZ Z h₀ L m h' news' φ' σ' -> Q v ⟨h', Z.g, Z.d, tk', Z.os⟩) -> Q' fl ⟨h', Z.g, Z.d, tk', Z.os⟩) ->
      (∀ {ws : List V} {e : Value} {s' : Shared}, RZZ Z (env' :: top :: outer) news φ ws e s' -> (∀ s'', RZZ Z (top :: outer) news φ ws e s'' -> E e s'') -> E' e s') ->
      wpAny (model Z.prog Z.w) A' (execs fn.body env') Q' E' ⟨h₁, Z.g, Z.d, tk₁, Z.os⟩) :
    codeAny (model Z.prog Z.w) A (.call (.ref fa) ⟨vs, []⟩) (fun r s' => match r with | .ok (.ret v) => Q v s' | .ok _ => False | .error e => E e s') ⟨h, Z.g, Z.d, tk, Z.os⟩ := by
  obtain ⟨A₀, B⟩ := C.below
  obtain ⟨mean, mg, mb, T⟩ := C.T
  obtain ⟨name, qual, params, scope, dV, kV, doc, pm, an, cdv, ct, oc, od, osl, pn, h1, h2, h3, h4, h5, h6, h7, h8, h9, h10, h11, h12⟩ := FO
  obtain ⟨ws, hbind, rws, hwl⟩ : ∃ ws, BindsTo ⟨h, Z.g, Z.d, tk, Z.os⟩ (PySem.W.fnOf name qual params fn.body scope dV kV doc pm an cdv ct) ⟨vs, []⟩ (pn.zip ws) /\ VRsZ Z news φ ws bs /\ bs.length = pn.length := by
    have hpl : fn.params.length = pn.length := by rw [<- h8]; simp
    rcases bindA_cases hb with ⟨rfl, e⟩ | ⟨dv, ds, hd, rfl, e⟩
    · exact ⟨vs, h11 _ _ (C.X.keeps S.F.keep) (by rw [rv.length]; omega), rv, by omega⟩
    · obtain ⟨wv, hwv, hbt⟩ := h12 dv ds hd
      exact ⟨vs ++ [wv], hbt _ _ (C.X.keeps S.F.keep) (by rw [rv.length]; omega), rv.append (.cons (hwv _ _ _ _) .nil), by rw [List.length_append, List.length_singleton]; omega⟩
  have hzip : ((pn.zip ws).map (·.1)) = pn := by
    rw [List.map_fst_zip]
    rw [rws.length, hwl]; exact Nat.le_refl _
  refine code_def (s := ⟨h, Z.g, Z.d, tk, Z.os⟩) B S.F C.X S.N T C.fr C.tf C.tk h1 h2 (by have := C.dep; omega) hbind (fun y hy => ?_) (fun g' L' h₁ FG F' N' B' X' T' => ?_) h4 h5 h6 h7
  · have : y.1 ∈ pn := by rw [<- hzip]; exact List.mem_map.mpr ⟨y, hy, rfl⟩
    exact (isLoc_iff (h9 _ this)).1
  · have C1 : CxZ Z (A.deeper (envOf qual scope L' fa cdv)) (envOf qual scope L' fa cdv) (envOf qual scope L' fa cdv) (top :: outer) g' L' fn.sc n :=
      ⟨envX_good (cl := []) h6 h3, rfl, h6, ⟨A, B'⟩, Around.frames_deeper C.fr, X', ⟨mean, mg, mb, T'⟩, C.hd, by have := C.dep; show A.depth + 1 + n < _; omega, by have := C.un; show A.units + 3 + 4 * n + 100 < _; omega,
        fun p hp => ⟨(C.fz p hp).1, let ⟨sl, q⟩ := (C.fz p hp).2; ⟨sl, FG.keep _ _ q⟩⟩⟩
    have hls : fn.params.length = bs.length := by rw [<- h8]; simp [hwl]
    refine body C1 ⟨rfl, rfl⟩ (S.turn F' N') ⟨fun x v e => ?_, hls⟩ PassesOwn.leaving (fun {v fl h' tk' m₂ news' φ' σ'} hv S' k => ?_) (fun {ws e s'} z k => ?_)
    · have e' : look (pn.map fun y => y.cps.toList) bs x.cps.toList = some v := by rw [h8]; exact e
      obtain ⟨w, q1, q2⟩ := zip_look h10 rws x v e'
      obtain ⟨y, hy, ee⟩ := List.mem_map.mp (look_key e')
      have hyx : y = x := str_ext ee
      subst hyx
      have hl := C1.env_.locOk (x := y) (by rw [<- h3]; exact h9 y hy)
      exact ⟨hl.2, .loc hl.1 rfl (by rw [lookup_rev (by rw [hzip]; exact h10)]; exact q1) q2⟩
    · have fin : LeaveK h₀ L m g' (fun r s' => match r with | .ok (.ret v) => Q v s' | .ok _ => False | .error e => E e s') v ⟨h', Z.g, Z.d, tk', Z.os⟩ :=
        leaveK_ (s' := ⟨h', Z.g, Z.d, tk', Z.os⟩) S'.F S'.N fun F2 N2 => k (S'.turn F2 N2)
      rcases hv with rfl | ⟨rfl, rfl⟩ <;> exact fin
    · exact RZ.leave (Around.frames_deeper C.fr) rfl z fun s'' z' => k s'' z'
theorem Sim.updH {CA : ClsAt} {FX : Fix} {H : List Addr} {h₀ h h' : Heap} {L : Addr} {m m' : Str -> Option Value} {news : Led} {φ : List Addr} {σ : Hp} (S : Sim CA FX H h₀ L m h news φ σ) {a : Addr} {o : Obj} (ha : a ∈ H) (F : Fr h₀ L h' m') (N : News h₀ L h' (updL a o news))
    (fd : FeedOk FX.pin H (updL a o news)) : Sim CA FX H h₀ L m' h' (updL a o news) φ σ /\ Ext H news φ (updL a o news) φ := by
  have ex : Ext H news φ (updL a o news) φ := .upd (.inr ha)
  exact ⟨⟨F, N, by rw [updL_fst]; exact S.nd, S.φn, S.φl, S.φH, fun i ob e => let ⟨b, hb, r⟩ := S.ob i ob e; ⟨b, hb, r.mono ex fun _ q => updL_mem q fun z => S.φH b (List.mem_of_getElem? hb) (by have z' : b = a := z; rw [z']; exact ha)⟩, fd⟩, ex⟩
end
end Mine
end

section
open PySem PySem.W PySem.Calls PyProof.Rows
namespace Mine
section
variable {Z : Wd} {n : Nat}
structure FdAt (Z : Wd) (news : Led) (fa ca : Addr) (x y : Int) (tx ty : Tok) (k : Nat) (vs : List Value) (is : List Int) (k' : Nat) : Prop where
  e : Z.H = fa :: ca :: Z.pin.map (·.1)
  nd : Z.H.Nodup
  mp : ∀ p ∈ Z.pin, p ∈ news
  m1 : (fa, listOf #[.ref ca, .int x tx, .int y ty] k) ∈ news
  m2 : (ca, listOf (List.toArray vs) k') ∈ news
  ia : IntsAre vs is
  y0 : 0 <= y
  y1 : y < 2147483647
  hl : vs.length <= 64
set_option tactic.hygienic false
theorem feed_of {news : Led} (f : FeedOk Z.pin Z.H news) : ∃ fa ca x y tx ty k vs is k', FdAt Z news fa ca x y tx ty k vs is k' := by
  obtain ⟨fa, ca, x, y, tx, ty, n, vs, is, n', e, nd, mp, m1, m2, ia, y0, y1, hl⟩ := f
  exact ⟨fa, ca, x, y, tx, ty, n, vs, is, n', e, nd, mp, m1, m2, ia, y0, y1, hl⟩
section
variable {news : Led} {fa ca : Addr} {x y : Int} {tx ty : Tok} {k : Nat} {vs : List Value} {is : List Int} {k' : Nat}
theorem FdAt.ok (f : FdAt Z news fa ca x y tx ty k vs is k') : FeedOk Z.pin Z.H news := ⟨fa, ca, x, y, tx, ty, k, vs, is, k', f.e, f.nd, f.mp, f.m1, f.m2, f.ia, f.y0, f.y1, f.hl⟩
theorem FdAt.ne (f : FdAt Z news fa ca x y tx ty k vs is k') : fa ≠ ca /\ (∀ p ∈ Z.pin, p.1 ≠ fa /\ p.1 ≠ ca) /\ fa ∈ Z.H /\ ca ∈ Z.H := by
  have nd := f.nd
  rw [f.e] at nd ⊢
  obtain ⟨h1, h2⟩ := List.nodup_cons.mp nd
  obtain ⟨h3, h4⟩ := List.nodup_cons.mp h2
  exact ⟨fun e => h1 (e ▸ .head _), fun p hp => ⟨fun e => h1 (.tail _ (List.mem_map.mpr ⟨p, hp, e⟩)), fun e => h3 (List.mem_map.mpr ⟨p, hp, e⟩)⟩, .head _, .tail _ (.head _)⟩
theorem FdAt.set (f : FdAt Z news fa ca x y tx ty k vs is k') (x' y' : Int) (tx' ty' : Tok) (h0 : 0 <= y') (h1 : y' < 2147483647) : FdAt Z (updL fa (listOf #[.ref ca, .int x' tx', .int y' ty'] k) news) fa ca x' y' tx' ty' k vs is k' := by
  obtain ⟨n1, n2, n3, n4⟩ := f.ne
  exact ⟨f.e, f.nd, fun p hp => updL_mem (f.mp p hp) (n2 p hp).1, updL_self f.m1, updL_mem f.m2 fun e => n1 e.symm, f.ia, h0, h1, f.hl⟩
theorem FdAt.pop {v : Value} {i : Int} (f : FdAt Z news fa ca x y tx ty k (v :: vs) (i :: is) k') (ia : IntsAre vs is) : FdAt Z (updL ca (listOf (List.toArray vs) (k' + 1)) news) fa ca x y tx ty k vs is (k' + 1) := by
  obtain ⟨n1, n2, n3, n4⟩ := f.ne
  exact ⟨f.e, f.nd, fun p hp => updL_mem (f.mp p hp) (n2 p hp).2, updL_mem f.m1 n1, updL_self f.m2, ia, f.y0, f.y1, by have := f.hl; simp at this; omega⟩
theorem feed_ref {u : Value} {φ : List Addr} (f : FdAt Z news fa ca x y tx ty k vs is k') (r : VRZ Z news φ u .feed) : u = .ref fa := by
  obtain ⟨a, rfl, h⟩ := r.feed_e
  rw [f.e] at h
  exact congrArg Value.ref (Option.some.inj h).symm
variable {A : Around} {env top : PySem.Env} {outer : List PySem.Env} {h₀ h : Heap} {L : Addr} {sc : List (Str × NameKind)} {ρ : Mine.Env} {σ : Hp} {m : Str -> Option Value} {φ : List Addr} {tk : Nat} {E : Value -> Shared -> Prop}
theorem feed_item (C : CxZ Z A env top outer h₀ L sc n) (S : SimZ Z h₀ L m h news φ σ) (O : LO Z env L news φ m ρ) (f : FdAt Z news fa ca x y tx ty k vs is k') {nm : Str} {p1 p2 p3 : Pos} {kk : Nat} {j : Nat} (hj : j < 3) (hv : look ρ.ks ρ.vs nm.cps.toList = some .feed) {Q : Value -> Shared -> Prop} {u : Value} (hu : [Value.ref ca, .int x tx, .int y ty][j]? = some u)
    (hq : ∀ tk', Q u ⟨h, Z.g, Z.d, tk', Z.os⟩) : wpAny (model Z.prog Z.w) A (eval (.Subscript (.Name nm p1) (.Constant (.int j) kk p2) p3) env) Q E ⟨h, Z.g, Z.d, tk, Z.os⟩ := by
  refine Subscript_ (name_at C S O hv fun w rw_ => ?_)
  rw [feed_ref f rw_]
  refine wpAny_Constant_int ?_
  refine listTail (s := ⟨h, Z.g, Z.d, tk + 1, Z.os⟩) (S.N.isList f.m1) (Int.natCast_nonneg j) (by omega) ?_ (hq _) (plainIdx_sub rfl _ _)
  simpa using hu
theorem feed_store (C : CxZ Z A env top outer h₀ L sc n) (S : SimZ Z h₀ L m h news φ σ) (O : LO Z env L news φ m ρ) (f : FdAt Z news fa ca x y tx ty k vs is k') {nm : Str} {p1 p2 p3 : Pos} {kk : Nat} {j : Nat} (hj : j < 3) (hv : look ρ.ks ρ.vs nm.cps.toList = some .feed) {Q : Unit -> Shared -> Prop} {u : Value} {x' y' : Int} {tx' ty' : Tok} (h0 : 0 <= y') (h1 : y' < 2147483647)
    (hu : ki_setL [Value.ref ca, .int x tx, .int y ty] j u = some [Value.ref ca, .int x' tx', .int y' ty'])
    (hq : ∀ h' tk' news', SimZ Z h₀ L m h' news' φ σ -> Ext Z.H news φ news' φ -> FdAt Z news' fa ca x' y' tx' ty' k vs is k' -> Q () ⟨h', Z.g, Z.d, tk', Z.os⟩) : wpAny (model Z.prog Z.w) A (assign (.Subscript (.Name nm p1) (.Constant (.int j) kk p2) p3) env u) Q E ⟨h, Z.g, Z.d, tk, Z.os⟩ := by
  show wpAny _ _ (holding [u] (eval (.Name nm p1) env) >>= fun ov => holding [u, ov] (eval (.Constant (.int j) kk p2) env) >>= fun iv => standAt p3 >>= fun _ => holding [u, ov, iv] (setItem ov iv u) >>= fun _ => release [u, ov, iv] []) Q E _
  refine wpAny_bind (wpAny_holding (name_at C S O hv fun w rw_ => ?_))
  rw [feed_ref f rw_]
  refine wpAny_bind (wpAny_holding (wpAny_Constant_int ?_))
  refine wpAny_bind (wpAny_standAt (wpAny_bind (wpAny_holding ?_)))
  refine ki_set (s := ⟨h, Z.g, Z.d, tk + 1, Z.os⟩) S.F S.N (Int.natCast_nonneg j) (by omega) (q := [Value.ref ca, .int x' tx', .int y' ty']) (by simpa using hu) (updL_upd S.nd f.m1) fun h' F' N' => ?_
  have f' := f.set x' y' tx' ty' h0 h1
  obtain ⟨S', E'⟩ := S.updH f.ne.2.2.1 F' N' f'.ok
  exact wpAny_release' (hq _ _ _ S' E' f')
theorem ints_VRs {φ : List Addr} : ∀ {vs : List Value} {is : List Int}, IntsAre vs is -> VRsZ Z news φ vs (is.map .int)
  | _, _, .nil => .nil
  | _, _, .cons i t r => .cons (.int i t) (ints_VRs r)
theorem ints_isD : ∀ is : List Int, isDs 1 (is.map V.int)
  | [] => .nil
  | i :: r => .cons (.int i) (ints_isD r)
theorem truth_cmp {env : PySem.Env} {A : Around} {E : Value -> Shared -> Prop} {s : Shared} {Q : Bool -> Shared -> Prop} {l r : PySem.Expr} {op : CmpOp} {p : Pos} (h : wpAny (model Z.prog Z.w) A (eval (.Compare l [op] [r] p) env) (fun v s₁ => ∃ b, v = .bool b /\ Q b s₁) E s) : wpAny (model Z.prog Z.w) A (PySem.isTrue (.Compare l [op] [r] p) env (eval (.Compare l [op] [r] p) env)) Q E s :=
  isTrue_any h rfl (fun l ops rs p e => by cases e; exact ⟨_, _, rfl, rfl⟩)
theorem feed_zero (C : CxZ Z A env top outer h₀ L sc n) (S : SimZ Z h₀ L m h news φ σ) (O : LO Z env L news φ m ρ) (f : FdAt Z news fa ca x y tx ty k vs is k') {nm : Str} {p1 p2 p3 p4 p5 : Pos} {kk kk2 : Nat} (hv : look ρ.ks ρ.vs nm.cps.toList = some .feed) {Q : Bool -> Shared -> Prop}
    (hq : ∀ tk', Q (x == 0) ⟨h, Z.g, Z.d, tk', Z.os⟩) :
    wpAny (model Z.prog Z.w) A (PySem.isTrue (.Compare (.Subscript (.Name nm p1) (.Constant (.int 1) kk p2) p3) [.Eq] [.Constant (.int 0) kk2 p4] p5) env (eval (.Compare (.Subscript (.Name nm p1) (.Constant (.int 1) kk p2) p3) [.Eq] [.Constant (.int 0) kk2 p4] p5) env)) Q E ⟨h, Z.g, Z.d, tk, Z.os⟩ := by
  refine truth_cmp (wpAny_Compare1 (feed_item (j := 1) C S O f (by decide) hv rfl fun tk' => ?_) rfl)
  exact wpAny_Constant_int (eq_int ⟨_, rfl, hq _⟩)
theorem feed_dry (C : CxZ Z A env top outer h₀ L sc n) (S : SimZ Z h₀ L m h news φ σ) (O : LO Z env L news φ m ρ) (f : FdAt Z news fa ca x y tx ty k vs is k') {nm : Str} {p1 p2 p3 p4 p5 : Pos} {kk : Nat} (hv : look ρ.ks ρ.vs nm.cps.toList = some .feed) {Q : Bool -> Shared -> Prop}
    (hq : ∀ h' tk' news', SimZ Z h₀ L m h' news' φ σ -> Ext Z.H news φ news' φ -> FdAt Z news' fa ca x y tx ty k vs is k' -> Q vs.isEmpty ⟨h', Z.g, Z.d, tk', Z.os⟩) :
    wpAny (model Z.prog Z.w) A (PySem.isTrue (.Compare (.Subscript (.Name nm p1) (.Constant (.int 0) kk p2) p3) [.Eq] [.List [] p4] p5) env (eval (.Compare (.Subscript (.Name nm p1) (.Constant (.int 0) kk p2) p3) [.Eq] [.List [] p4] p5) env)) Q E ⟨h, Z.g, Z.d, tk, Z.os⟩ := by
  refine truth_cmp (wpAny_Compare1 (feed_item (j := 0) C S O f (by decide) hv rfl fun tk' => ?_) rfl)
  refine List_ (spliced_none ?_)
  refine newList_K (s := ⟨h, Z.g, Z.d, tk', Z.os⟩) S.F S.N (fun a h' F' N' hf => ?_) (by simp)
  obtain ⟨S', E'⟩ := S.push hf F' N'
  have f' : FdAt Z ((a, listOf (List.toArray []) 0) :: news) fa ca x y tx ty k vs is k' := ⟨f.e, f.nd, fun p hp => .tail _ (f.mp p hp), .tail _ f.m1, .tail _ f.m2, f.ia, f.y0, f.y1, f.hl⟩
  obtain ⟨as, ra, ca', da⟩ := reads_ds S'.N 1 (ints_VRs (Z := Z) (φ := φ) f.ia) (ints_isD is)
  have rl : Reads h' (.ref ca) (.list (pyDs (is.map .int))) (ca :: as) := .list (S'.N.get f'.m2) rfl rfl (by simpa using ra)
  have rn : Reads h' (.ref a) (.list []) [a] := .list (S'.N.get (.head _)) rfl rfl (by simpa using ReadsAll.nil)
  have hu : A.units + 64 < cLine := by have := C.un; omega
  refine eq_dataH (s := ⟨h', Z.g, Z.d, tk', Z.os⟩) rl rn (shaped_of (by simpa [PyData.canLay0] using ca') (by simp only [PyData.depth]; omega)) (shaped_of rfl (by simp [PyData.depth, PyData.depthAll])) hu ?_
  have hb : PyData.eqv (.list (pyDs (is.map .int))) (.list []) = vs.isEmpty := by
    have hi := f.ia
    cases hi with
    | nil => simp [pyDs, PyData.eqv, PyData.eqvAll]
    | cons i t r => simp [pyDs, PyData.eqv, PyData.eqvAll]
  rw [hb]
  exact ⟨_, rfl, hq _ _ _ S' E' f'⟩
theorem feed_int (C : CxZ Z A env top outer h₀ L sc n) (S : SimZ Z h₀ L m h news φ σ) (O : LO Z env L news φ m ρ) (f : FdAt Z news fa ca x y tx ty k vs is k') {nm i : Str} {p1 p2 p3 p4 p5 : Pos} {kk : Nat} {j : Nat} (hj : j < 3) (hv : look ρ.ks ρ.vs nm.cps.toList = some .feed) {Q : Value -> Shared -> Prop} {z : Int} {tz : Tok} (hu : [Value.ref ca, .int x tx, .int y ty][j]? = some (.int z tz))
    (hg : isGlb sc i.cps.toList = true) (hi : i = Str.ofString "int") (he : nsIn Z.K mainGlobals i = some none)
    (hq : ∀ tk', Q (.int z tz) ⟨h, Z.g, Z.d, tk', Z.os⟩) : wpAny (model Z.prog Z.w) A (eval (.Call (.Name i p4) [.Subscript (.Name nm p1) (.Constant (.int j) kk p2) p3] [] p5) env) Q E ⟨h, Z.g, Z.d, tk, Z.os⟩ := by
  subst hi
  refine Call_ (name_bi C S hg he (fv := .type "int") (by decide +kernel) (by decide +kernel) ?_) (by rfl)
  refine Pv.callWith_type1 (spliced_more (feed_item C S O f hj hv hu fun tk' => spliced_none ?_) rfl)
  exact call_int_int (hq tk')
end
end
end Mine
end

section
open PySem PySem.W PySem.Calls PyProof.Rows
namespace Mine
noncomputable def Z0 (w : World) (base : Heap) (fz : Led) (g : Array GenState) (d : Drawn) (os : OsState) (T : Tab) (pin : Led) (H : List Addr) : Wd :=
  { prog := pw_sj0033_01, w := w, p := qv, loose := looseW qv [Str.ofString "GateloomError"], base := base, K := K0 w.params, CA := CA0, H := H, g := g, d := d, os := os, T := T, ce := 80, pin := pin, fz := fz }
section
variable {w : World} {base : Heap} {fz : Led} {g : Array GenState} {d : Drawn} {os : OsState} {T : Tab} {pin : Led} {H : List Addr} {n : Nat}
set_option tactic.hygienic false
theorem ints_cons {v : Value} {r : List Value} {is : List Int} (h : IntsAre (v :: r) is) : ∃ i ti ns, v = .int i ti /\ is = i :: ns /\ IntsAre r ns := by
  cases h with
  | cons i t h => exact ⟨_, _, _, rfl, rfl, h⟩
theorem fmod_nat (x : Int) (k : Nat) : ∃ i : Nat, x.fmod ((k : Int) + 1) = .ofNat i /\ i < k + 1 := by
  have hp : (0 : Int) < (k : Int) + 1 := by omega
  have h0 := Int.fmod_nonneg_of_pos x hp
  have h1 := Int.fmod_lt_of_pos x hp
  obtain ⟨i, hi⟩ := Int.eq_ofNat_of_zero_le h0
  exact ⟨i, hi, by omega⟩
set_option tactic.hygienic true
theorem pick_sound {A : Around} {env top : PySem.Env} {outer : List PySem.Env} {h₀ : Heap} {L : Addr} {sc : List (Str × NameKind)} {fa : Addr} {u : Value} {k : Nat} {t : Tok} {σ : Hp} {h : Heap} {m : Str -> Option Value} {news : Led} {φ : List Addr} {tk : Nat} {Q E : Value -> Shared -> Prop}
    (hfa : nsIn (K0 w.params) mainGlobals (mk n_pick) = some (some (.ref fa))) (C : CxZ (Z0 w base fz g d os T pin H) A env top outer h₀ L sc (n + 1)) (S : SimZ (Z0 w base fz g d os T pin H) h₀ L m h news φ σ) (ru : VRZ (Z0 w base fz g d os T pin H) news φ u .feed) (hk : k <= 4096)
    (hQ : ∀ i h' tk' news' t', i < k + 1 -> SimZ (Z0 w base fz g d os T pin H) h₀ L m h' news' φ σ -> Ext H news φ news' φ -> Q (.int (.ofNat i) t') ⟨h', g, d, tk', os⟩) :
    wpAny (model pw_sj0033_01 w) A (call (.ref fa) [u, .int (.ofNat (k + 1)) t]) Q E ⟨h, g, d, tk, os⟩ := by
  have e1 : nsIn (K0 w.params) mainGlobals (mk n_pick) = some (some (.ref 243)) := by kernel_rfl
  rw [e1] at hfa
  cases hfa
  refine wpAny_call (enter_def (Z := Z0 w base fz g d os T pin H) (fo_243 _ w w.params) C S (.cons ru (.cons (.int _ t) .nil)) rfl fun {A' env' L' g₀ h₁ m' tk₁ Q' E'} C' ow S' O' hE ret raise => ?_)
  obtain ⟨fa, ca, x, y, tx, ty, kk, vs, is, k', f⟩ := feed_of S'.fd
  have lf : look (fx (st 15)).params [V.feed, .int (.ofNat (k + 1))] (Str.ofString "feed").cps.toList = some .feed := by kernel_rfl
  have lm : look (fx (st 15)).params [V.feed, .int (.ofNat (k + 1))] (Str.ofString "many").cps.toList = some (.int (.ofNat (k + 1))) := by kernel_rfl
  have tail : ∀ {x y : Int} {tx ty : Tok} {vs : List Value} {is : List Int} {k' : Nat} {h₂ : Heap} {tk₂ : Nat} {news₂ : Led}, SimZ (Z0 w base fz g d os T pin H) g₀ L' m' h₂ news₂ φ σ -> Ext H news φ news₂ φ -> FdAt (Z0 w base fz g d os T pin H) news₂ fa ca x y tx ty kk vs is k' ->
      wpAny (model pw_sj0033_01 w) A' (execs (fx (st 15)).body.tail env') Q' E' ⟨h₂, g, d, tk₂, os⟩ := fun {x y tx ty vs is k' h₂ tk₂ news₂} S₂ E₂ f₂ => by
    have O₂ := O'.mono E₂
    refine wpAny_execs_cons (Assign_any (by rfl) (by rfl) (by rfl) (wpAny_BinOp (feed_int C' S₂ O₂ f₂ (j := 1) (by decide) lf rfl (by kernel_rfl) rfl (by kernel_rfl) fun tk₃ => name_at C' S₂ O₂ lm fun u ru => ?_)))
    obtain ⟨_, rfl⟩ := ru.int_e
    refine mod_int' (by simp; omega) ?_
    refine wpAny_assign_Name ?_
    have hloc := C'.env_.locOk (x := Str.ofString "found") (by kernel_rfl)
    refine storeG C'.env_ ow.2 hloc.1 S₂.F S₂.N fun h₃ F₃ N₃ => ?_
    have S₃ := S₂.frame F₃ N₃
    have O₃ := O₂.put hloc.2 hloc.1 ow.2 (v := .int (Int.fmod x (Int.ofNat (k + 1)))) (u := .int (Int.fmod x (Int.ofNat (k + 1))) tk₃) (.int _ _)
    have lf' : look ((Mine.Env.put ⟨(fx (st 15)).nm, (fx (st 15)).sc, (fx (st 15)).params, [V.feed, .int (.ofNat (k + 1))]⟩ (Str.ofString "found").cps.toList (.int (Int.fmod x (Int.ofNat (k + 1)))))).ks ((Mine.Env.put ⟨(fx (st 15)).nm, (fx (st 15)).sc, (fx (st 15)).params, [V.feed, .int (.ofNat (k + 1))]⟩ (Str.ofString "found").cps.toList (.int (Int.fmod x (Int.ofNat (k + 1)))))).vs (Str.ofString "feed").cps.toList = some .feed := by kernel_rfl
    have lm' : look ((Mine.Env.put ⟨(fx (st 15)).nm, (fx (st 15)).sc, (fx (st 15)).params, [V.feed, .int (.ofNat (k + 1))]⟩ (Str.ofString "found").cps.toList (.int (Int.fmod x (Int.ofNat (k + 1)))))).ks ((Mine.Env.put ⟨(fx (st 15)).nm, (fx (st 15)).sc, (fx (st 15)).params, [V.feed, .int (.ofNat (k + 1))]⟩ (Str.ofString "found").cps.toList (.int (Int.fmod x (Int.ofNat (k + 1)))))).vs (Str.ofString "many").cps.toList = some (.int (.ofNat (k + 1))) := by kernel_rfl
    have ld' : look ((Mine.Env.put ⟨(fx (st 15)).nm, (fx (st 15)).sc, (fx (st 15)).params, [V.feed, .int (.ofNat (k + 1))]⟩ (Str.ofString "found").cps.toList (.int (Int.fmod x (Int.ofNat (k + 1)))))).ks ((Mine.Env.put ⟨(fx (st 15)).nm, (fx (st 15)).sc, (fx (st 15)).params, [V.feed, .int (.ofNat (k + 1))]⟩ (Str.ofString "found").cps.toList (.int (Int.fmod x (Int.ofNat (k + 1)))))).vs (Str.ofString "found").cps.toList = some (.int (Int.fmod x (Int.ofNat (k + 1)))) := by kernel_rfl
    refine wpAny_execs_cons (Assign_any (by rfl) (by rfl) (by rfl) (wpAny_BinOp (feed_item C' S₃ O₃ f₂ (j := 1) (by decide) lf' rfl fun tk₄ => name_at C' S₃ O₃ lm' fun u ru => ?_)))
    obtain ⟨_, rfl⟩ := ru.int_e
    refine floordiv_int (by simp; omega) ?_ (Or.inl (PyProof.noPylong_small (by simp; omega)))
    refine feed_store C' S₃ O₃ f₂ (j := 1) (by decide) lf' f₂.y0 f₂.y1 rfl fun h₄ tk₅ news₄ S₄ E₄ f₄ => ?_
    refine wpAny_execs_cons (wpAny_Return_some (name_at C' S₄ (O₃.mono E₄) ld' fun u ru => ?_))
    obtain ⟨_, rfl⟩ := ru.int_e
    obtain ⟨i, hi, hlt⟩ := fmod_nat x k
    have hi' : Int.fmod x (Int.ofNat (k + 1)) = .ofNat i := hi
    rw [hi']
    exact ret (.inl rfl) S₄ fun S₅ => hQ _ _ _ _ _ hlt S₅ (E₂.trans E₄)
  refine wpAny_execs_cons (wpAny_If (feed_zero C' S' O' f lf fun tk₂ => ?_))
  split
  · refine wpAny_execs_cons (wpAny_If (feed_dry C' S' O' f lf fun h₂ tk₃ news₂ S₂ E₂ f₂ => ?_))
    have O₂ := O'.mono E₂
    split
    · refine wpAny_execs_cons (Assign_any (by rfl) (by rfl) (by rfl) (wpAny_BinOp (wpAny_BinOp (feed_int C' S₂ O₂ f₂ (j := 2) (by decide) lf rfl (by kernel_rfl) rfl (by kernel_rfl) fun tk₄ => wpAny_Constant_int (mul_int ?_ (IntMulOk.of_right (by decide +kernel)))))))
      refine wpAny_Constant_int (mod_int' (by decide) ?_)
      have hp : (0 : Int) < 2147483647 := by decide
      refine feed_store C' S₂ O₂ f₂ (j := 2) (by decide) lf (Int.fmod_nonneg_of_pos _ hp) (Int.fmod_lt_of_pos _ hp) rfl fun h₄ tk₅ news₄ S₄ E₄ f₄ => ?_
      have O₄ := O₂.mono E₄
      refine wpAny_execs_cons (Assign_any (by rfl) (by rfl) (by rfl) (wpAny_BinOp (feed_item C' S₄ O₄ f₄ (j := 2) (by decide) lf rfl fun tk₆ => wpAny_Constant_int (floordiv_int (by decide) ?_ (Or.inl (PyProof.noPylong_small (by decide)))))))
      refine feed_store C' S₄ O₄ f₄ (j := 1) (by decide) lf f₄.y0 f₄.y1 rfl fun h₅ tk₇ news₅ S₅ E₅ f₅ => ?_
      exact wpAny_execs_nil (wpAny_execs_nil (tail S₅ ((E₂.trans E₄).trans E₅) f₅))
    · rename_i hne
      obtain ⟨v, r, hvs⟩ : ∃ v r, vs = v :: r := by
        cases vs with
        | nil => exact absurd rfl hne
        | cons v r => exact ⟨v, r, rfl⟩
      subst hvs
      obtain ⟨i, ti, ns, rfl, rfl, hr⟩ := ints_cons f₂.ia
      refine wpAny_execs_cons (Assign_any (by rfl) (by rfl) (by rfl) (call_method (by rfl) (by rfl) (by decide) (by rfl) fun pl => ?_))
      refine feed_item C' S₂ O₂ f₂ (j := 0) (by decide) lf rfl fun tk₄ => ?_
      refine kl_method (s := ⟨h₂, g, d, tk₄, os⟩) S₂.N f₂.m2 PySem.F.slot_list_pop PySem.F.type_list_pop ?_
      refine callWith_method1 (spliced_more (wpAny_Constant_int (spliced_none ?_)) rfl)
      have hsz : (List.toArray (Value.int i ti :: r)).toList.length <= 64 := by simpa using f₂.hl
      have f₃ := f₂.pop hr
      refine kl_popAt (s := ⟨h₂, g, d, tk₄ + 1, os⟩) (p := []) (q := r) (y := .int i ti) (k := 0) S₂.F S₂.N (by rfl) (seqIndex_nn (Int.le_refl _) (by simp)) (by simp [kl_cut]) (updL_upd S₂.nd f₂.m2) (Nat.le_trans hsz (by rw [sizeLine_eq]; decide)) fun h₃ F₃ N₃ => ?_
      obtain ⟨S₃, E₃⟩ := S₂.updH f₂.ne.2.2.2 F₃ N₃ f₃.ok
      refine feed_store C' S₃ (O₂.mono E₃) f₃ (j := 1) (by decide) lf f₃.y0 f₃.y1 rfl fun h₅ tk₇ news₅ S₅ E₅ f₅ => ?_
      exact wpAny_execs_nil (wpAny_execs_nil (tail S₅ ((E₂.trans E₃).trans E₅) f₅))
  · exact wpAny_execs_nil (tail S' (.refl _ _ _) f)
end
end Mine
end

section
open PySem PySem.W PySem.Calls PyProof.Rows
namespace Mine
noncomputable def lookV : List N -> List Value -> N -> Option Value
  | k :: ks, v :: vs, x => match leq k x with
    | true => some v
    | false => lookV ks vs x
  | _, _, _ => Option.none
set_option tactic.hygienic false
theorem zip_lookV : ∀ {pn : List Str} {ws : List Value} (x : Str) (v : Value), lookV (pn.map fun y => y.cps.toList) ws x.cps.toList = some v -> (pn.zip ws).lookup x = some v /\ ∃ y ∈ pn, y = x
  | [], ws, x, v, e => by simp [lookV] at e
  | y :: pn, [], x, v, e => by simp [lookV] at e
  | y :: pn, w :: ws, x, v, e => by
    simp only [List.map_cons, lookV] at e
    have hb : (x == y) = leq y.cps.toList x.cps.toList := by
      rw [leq_str, Bool.eq_iff_iff, leq_iff, leq_iff]; exact eq_comm
    rw [List.zip_cons_cons, List.lookup_cons, hb]
    cases hq : leq y.cps.toList x.cps.toList with
    | true => rw [hq] at e; cases e; exact ⟨rfl, y, .head _, str_ext (leq_iff.mp hq)⟩
    | false =>
      rw [hq] at e
      obtain ⟨a, z, hz, ez⟩ := zip_lookV x v e
      exact ⟨a, z, .tail _ hz, ez⟩
section
variable {Z : Wd} {n : Nat}
theorem enter_raw {A : Around} {env top : PySem.Env} {outer : List PySem.Env} {h₀ : Heap} {L : Addr} {sc : List (Str × NameKind)} {fn : Fn} {fa : Addr} {vs : List Value} {h : Heap} {m : Str -> Option Value} {news : Led} {tk : Nat} {R : Result -> Shared -> Prop}
    (FO : FnOk Z.prog Z.w Z.CA Z.K fn fa) (C : CxZ Z A env top outer h₀ L sc (n + 1)) (F : Fr h₀ L h m) (N : News h₀ L h news) (hl : vs.length = fn.params.length)
    (body : ∀ {A' : Around} {env' : PySem.Env} {L' : Addr} {g₀ h₁ : Heap} {m' : Str -> Option Value} {tk₁ : Nat} {Q' : PySem.Flow -> Shared -> Prop} {E' : Value -> Shared -> Prop},
      CxZ Z A' env' env' (top :: outer) g₀ L' fn.sc n -> Own env' env' L' -> Fr g₀ L' h₁ m' -> News g₀ L' h₁ news -> (∀ (x : Str) (v : Value), lookV fn.params vs x.cps.toList = some v -> m' x = some v /\ env'.kindOf x = some .local /\ (x == ("__debug__" : Str)) = false) ->
      (∀ {v : Value} {fl : PySem.Flow} {h' : Heap} {tk' : Nat} {m₂ : Str -> Option Value} {news' : Led}, (fl = .ret v \/ (fl = .next /\ v = .none)) -> Fr g₀ L' h' m₂ -> News g₀ L' h' news' -> (Fr h₀ L h' m -> News h₀ L h' news' -> R (.ok (.ret v)) ⟨h', Z.g, Z.d, tk', Z.os⟩) -> Q' fl ⟨h', Z.g, Z.d, tk', Z.os⟩) ->
      wpAny (model Z.prog Z.w) A' (execs fn.body env') Q' E' ⟨h₁, Z.g, Z.d, tk₁, Z.os⟩) :
    codeAny (model Z.prog Z.w) A (.call (.ref fa) ⟨vs, []⟩) R ⟨h, Z.g, Z.d, tk, Z.os⟩ := by
  obtain ⟨A₀, B⟩ := C.below
  obtain ⟨mean, mg, mb, T⟩ := C.T
  obtain ⟨name, qual, params, scope, dV, kV, doc, pm, an, cdv, ct, oc, od, osl, pn, h1, h2, h3, h4, h5, h6, h7, h8, h9, h10, h11, h12⟩ := FO
  have hpl : vs.length = pn.length := by rw [hl, <- h8]; simp
  have hbind := h11 ⟨h, Z.g, Z.d, tk, Z.os⟩ vs (C.X.keeps F.keep) hpl
  have hzip : ((pn.zip vs).map (·.1)) = pn := by
    rw [List.map_fst_zip]
    rw [hpl]; exact Nat.le_refl _
  refine code_def (s := ⟨h, Z.g, Z.d, tk, Z.os⟩) B F C.X N T C.fr C.tf C.tk h1 h2 (by have := C.dep; omega) hbind (fun y hy => ?_) (fun g' L' h₁ FG F' N' B' X' T' => ?_) h4 h5 h6 h7
  · have : y.1 ∈ pn := by rw [<- hzip]; exact List.mem_map.mpr ⟨y, hy, rfl⟩
    exact (isLoc_iff (h9 _ this)).1
  · have C1 : CxZ Z (A.deeper (envOf qual scope L' fa cdv)) (envOf qual scope L' fa cdv) (envOf qual scope L' fa cdv) (top :: outer) g' L' fn.sc n :=
      ⟨envX_good (cl := []) h6 h3, rfl, h6, ⟨A, B'⟩, Around.frames_deeper C.fr, X', ⟨mean, mg, mb, T'⟩, C.hd, by have := C.dep; show A.depth + 1 + n < _; omega, by have := C.un; show A.units + 3 + 4 * n + 100 < _; omega,
        fun p hp => ⟨(C.fz p hp).1, let ⟨sl, q⟩ := (C.fz p hp).2; ⟨sl, FG.keep _ _ q⟩⟩⟩
    refine body C1 ⟨rfl, rfl⟩ F' N' (fun x v e => ?_) (fun {v fl h' tk' m₂ news'} hv F₂ N₂ k => ?_)
    · rw [<- h8] at e
      obtain ⟨q1, y, hy, rfl⟩ := zip_lookV x v e
      have hl := C1.env_.locOk (x := y) (by rw [<- h3]; exact h9 y hy)
      exact ⟨by rw [lookup_rev (by rw [hzip]; exact h10)]; exact q1, hl.1, hl.2⟩
    · have fin : LeaveK h₀ L m g' R v ⟨h', Z.g, Z.d, tk', Z.os⟩ := leaveK_ (s' := ⟨h', Z.g, Z.d, tk', Z.os⟩) F₂ N₂ fun F2 N2 => k F2 N2
      rcases hv with rfl | ⟨rfl, rfl⟩ <;> exact fin
theorem name_raw {A : Around} {env top : PySem.Env} {outer : List PySem.Env} {h₀ : Heap} {L : Addr} {sc : List (Str × NameKind)} {h : Heap} {m : Str -> Option Value} {tk : Nat} {x : Str} {np : Pos} {v : Value} {Q E : Value -> Shared -> Prop}
    (C : CxZ Z A env top outer h₀ L sc n) (ow : Own env top L) (F : Fr h₀ L h m) (hx : m x = some v /\ env.kindOf x = some .local /\ (x == ("__debug__" : Str)) = false) (hq : Q v ⟨h, Z.g, Z.d, tk, Z.os⟩) :
    wpAny (model Z.prog Z.w) A (eval (.Name x np) env) Q E ⟨h, Z.g, Z.d, tk, Z.os⟩ :=
  wpAny_Name (wpAny_loadName_local C.env_.kind hx.2.1 (by rw [ow.2]; exact F.ns) hx.1 hq) hx.2.2
theorem init_set {A : Around} {env top : PySem.Env} {outer : List PySem.Env} {h₀ : Heap} {L : Addr} {sc : List (Str × NameKind)} {h : Heap} {m : Str -> Option Value} {tk : Nat} {news : Led} {φ : List Addr} {x dx Cc : Addr} {cn : N} {es : List DictEntry} {k : Nat} {ks : List N} {l : List V} {self f : Str} {p1 p2 pos : Pos} {e : PySem.Expr} {y : V}
    {Q : PySem.Flow -> Shared -> Prop} {E : Value -> Shared -> Prop} (KO : KOk Z.K Z.CA) (hC : Z.CA cn = some Cc)
    (C : CxZ Z A env top outer h₀ L sc n) (ow : Own env top L) (F : Fr h₀ L h m) (N : News h₀ L h ((x, instObj Cc dx) :: (dx, dictOf es k) :: news)) (hxd : x ≠ dx) (hfr : ∀ p ∈ news, p.1 ≠ dx) (r : VFs Z.CA (FX0 Z.prog Z.w Z.pin) news φ Z.H es ks l) (hz : ks.length <= 20)
    (hs : m self = some (.ref x) /\ env.kindOf self = some .local /\ (self == ("__debug__" : Str)) = false) (hf : memN attrNs f.cps.toList = true) (hc : isComp e = false) (hsw : swappedStores [.Attribute (.Name self p1) f p2] e env = pure none)
    (he : ∀ {Q' : Value -> Shared -> Prop} {tk₁ : Nat}, (∀ v tk', VRZ Z news φ v y -> Q' v ⟨h, Z.g, Z.d, tk', Z.os⟩) -> wpAny (model Z.prog Z.w) A (eval e env) Q' E ⟨h, Z.g, Z.d, tk₁, Z.os⟩)
    (q : ∀ h' tk' es' k', Fr h₀ L h' m -> News h₀ L h' ((x, instObj Cc dx) :: (dx, dictOf es' k') :: news) -> VFs Z.CA (FX0 Z.prog Z.w Z.pin) news φ Z.H es' (putK ks f.cps.toList) (putV ks l f.cps.toList y) -> Q .next ⟨h', Z.g, Z.d, tk', Z.os⟩) :
    wpAny (model Z.prog Z.w) A (exec (.Assign [.Attribute (.Name self p1) f p2] e pos) env) Q E ⟨h, Z.g, Z.d, tk, Z.os⟩ := by
  refine Assign_any (by rfl) hc hsw (he fun v tk₁ rv => ?_)
  show wpAny _ _ (holding [v] (eval (.Name self p1) env) >>= fun ov => standAt p2.atName >>= fun _ => holding [v, ov] (setAttr ov f v) >>= fun _ => release [v, ov] []) _ E _
  refine wpAny_bind (wpAny_holding (name_raw C ow F hs ?_))
  refine wpAny_bind (wpAny_standAt (wpAny_bind (wpAny_holding ?_)))
  refine set_dict (s := ⟨h, Z.g, Z.d, tk₁, Z.os⟩) (ox := instObj Cc dx) F C.X N (InstAt.of_news N (.head _) (.tail _ (.head _))) rfl (KO.sat _ _ hC) (KO.over _ _ hC) (KO.tak _ _ hC f hf) (KO.hd _ _ hC) (getL_some r f) rfl (.tail hxd (.head hfr)) ?_ (fun h' F' N' => ?_)
  · exact Nat.le_trans (putL_len2 _ _ _ _ es) (by have := r.len; omega)
  · exact wpAny_release' (q _ _ _ _ F' N' (r.put rv))
end
section
variable {w : World} {base : Heap} {fz : Led} {g : Array GenState} {d : Drawn} {os : OsState} {T : Tab} {pin : Led} {H : List Addr} {n : Nat}
theorem token_made {A : Around} {env top : PySem.Env} {outer : List PySem.Env} {h₀ : Heap} {L : Addr} {sc : List (Str × NameKind)} {a b c : Value} {xa xb xc : V} {h : Heap} {m : Str -> Option Value} {news : Led} {φ : List Addr} {tk : Nat} {Q E : Value -> Shared -> Prop}
    (C : CxZ (Z0 w base fz g d os T pin H) A env top outer h₀ L sc (n + 2)) (F : Fr h₀ L h m) (N : News h₀ L h news) (ra : VRZ (Z0 w base fz g d os T pin H) news φ a xa) (rb : VRZ (Z0 w base fz g d os T pin H) news φ b xb) (rc : VRZ (Z0 w base fz g d os T pin H) news φ c xc)
    (hQ : ∀ x dx es k h' tk', Fr h₀ L h' m -> News h₀ L h' ((x, instObj 99 dx) :: (dx, dictOf es k) :: news) -> (∀ p ∈ news, p.1 < dx) -> dx < x -> VFs CA0 (FX0 pw_sj0033_01 w pin) news φ H es [n_kind, n_value, n_at] [xa, xb, xc] -> Q (.ref x) ⟨h', g, d, tk', os⟩) :
    wpAny (model pw_sj0033_01 w) A (call (.ref 99) [a, b, c]) Q E ⟨h, g, d, tk, os⟩ := by
  have ii : findIn (K0 w.params) (.ref 99) "__init__" = some (some (.ref 96)) := by kernel_rfl
  refine call_cls (s := ⟨h, g, d, tk, os⟩) F C.X N (K := K0 w.params) (by kernel_rfl) ii (by kernel_rfl) fun x dx h' F' N' l1 l2 => ?_
  have hxd : x ≠ dx := Nat.ne_of_gt l2
  have hfr : ∀ p ∈ news, p.1 ≠ dx := fun p hp => Nat.ne_of_lt (l1 p hp)
  refine enter_raw (Z := Z0 w base fz g d os T pin H) (n := n) (fo_96 _ w w.params) C.under F' N' (by kernel_rfl) fun {A' env' L' g₀ h₁ m' tk₁ Q' E'} C' ow F₁ N₁ lk ret => ?_
  refine wpAny_execs_cons (init_set (cn := n_Token) (kok0 w.params) rfl C' ow F₁ N₁ hxd hfr .nil (by decide) (lk _ _ (by kernel_rfl)) (by kernel_rfl) (by rfl) (by rfl) (fun hq => name_raw C' ow F₁ (lk _ _ (by kernel_rfl)) (hq _ _ ra)) fun h₂ tk₂ es₂ k₂ F₂ N₂ r₂ => ?_)
  refine wpAny_execs_cons (init_set (cn := n_Token) (kok0 w.params) rfl C' ow F₂ N₂ hxd hfr r₂ (by decide) (lk _ _ (by kernel_rfl)) (by kernel_rfl) (by rfl) (by rfl) (fun hq => name_raw C' ow F₂ (lk _ _ (by kernel_rfl)) (hq _ _ rb)) fun h₃ tk₃ es₃ k₃ F₃ N₃ r₃ => ?_)
  refine wpAny_execs_cons (init_set (cn := n_Token) (kok0 w.params) rfl C' ow F₃ N₃ hxd hfr r₃ (by decide) (lk _ _ (by kernel_rfl)) (by kernel_rfl) (by rfl) (by rfl) (fun hq => name_raw C' ow F₃ (lk _ _ (by kernel_rfl)) (hq _ _ rc)) fun h₄ tk₄ es₄ k₄ F₄ N₄ r₄ => ?_)
  refine wpAny_execs_nil (ret (.inr ⟨rfl, rfl⟩) F₄ N₄ fun F5 N5 => ⟨rfl, hQ _ _ _ _ _ _ F5 N5 l1 l2 ?_⟩)
  exact r₄
end
end Mine
end

section
open PySem PySem.W PySem.Calls PyProof.Rows
namespace Mine
section
variable {w : World} {base : Heap} {fz : Led} {g : Array GenState} {d : Drawn} {os : OsState} {T : Tab} {pin : Led} {H : List Addr} {n : Nat}
set_option tactic.hygienic false
theorem token_push {h₀ h h' : Heap} {L : Addr} {m : Str -> Option Value} {news : Led} {φ : List Addr} {σ : Hp} {x dx : Addr} {es : List DictEntry} {k : Nat} {l : List V} (S : SimZ (Z0 w base fz g d os T pin H) h₀ L m h news φ σ) (F : Fr h₀ L h' m) (N : News h₀ L h' ((x, instObj 99 dx) :: (dx, dictOf es k) :: news))
    (l1 : ∀ p ∈ news, p.1 < dx) (l2 : dx < x) (r : VFs CA0 (FX0 pw_sj0033_01 w pin) news φ H es [n_kind, n_value, n_at] l) :
    SimZ (Z0 w base fz g d os T pin H) h₀ L m h' ((x, instObj 99 dx) :: (dx, dictOf es k) :: news) φ σ /\ Ext H news φ ((x, instObj 99 dx) :: (dx, dictOf es k) :: news) φ /\ VRZ (Z0 w base fz g d os T pin H) ((x, instObj 99 dx) :: (dx, dictOf es k) :: news) φ (.ref x) (.ins n_Token [n_kind, n_value, n_at] l) := by
  obtain ⟨S1, E1⟩ := S.push l1 F fun p hp => N p (.tail _ hp)
  have l3 : ∀ p ∈ (dx, dictOf es k) :: news, p.1 < x := fun p hp => by
    rcases List.mem_cons.mp hp with rfl | hp
    · exact l2
    · exact Nat.lt_trans (l1 p hp) l2
  obtain ⟨S2, E2⟩ := S1.push l3 F N
  exact ⟨S2, E1.trans E2, .ins (C := 99) (d := dx) (es := es) (n := k) rfl (.head _) (off_new S1 l3) (.tail _ (.head _)) (off_new S l1) (VFs.mono (E1.trans E2) r)⟩
theorem simple_sound {A : Around} {env top : PySem.Env} {outer : List PySem.Env} {h₀ : Heap} {L : Addr} {sc : List (Str × NameKind)} {f : N} {ks : List N} {C : Addr} {vs : List Value} {xs : List V} {σ : Hp} {h : Heap} {m : Str -> Option Value} {news : Led} {φ : List Addr} {tk : Nat} {P : V -> Hp -> Prop} {Q E : Value -> Shared -> Prop}
    (hf : find simpleT f = some ks) (hC : CA0 f = some C) (hl : ks.length = xs.length) (c : CxZ (Z0 w base fz g d os T pin H) A env top outer h₀ L sc (n + 2)) (S : SimZ (Z0 w base fz g d os T pin H) h₀ L m h news φ σ) (rv : VRsZ (Z0 w base fz g d os T pin H) news φ vs xs) (hp : P (.ins f ks xs) σ) (hK : KE (Z0 w base fz g d os T pin H) h₀ L m news φ P Q) :
    wpAny (model pw_sj0033_01 w) A (call (.ref C) vs) Q E ⟨h, g, d, tk, os⟩ := by
  have := find_mem hf
  simp only [simpleT, List.mem_cons, List.not_mem_nil, or_false, Prod.mk.injEq] at this
  obtain ⟨rfl, rfl⟩ := this
  cases hC
  obtain ⟨xa, xb, xc, rfl⟩ := len_three hl.symm
  obtain ⟨a, b, c', rfl, ra, rb, rc⟩ := rv.three_e
  refine token_made c S.F S.N ra rb rc fun x dx es k h' tk' F' N' l1 l2 r => ?_
  obtain ⟨S', E', r'⟩ := token_push S F' N' l1 l2 r
  exact hK _ _ hp _ _ _ _ _ S' E' r'
theorem row_sound {A : Around} {env top : PySem.Env} {outer : List PySem.Env} {h₀ : Heap} {L : Addr} {sc : List (Str × NameKind)} {u : Value} {l : List V} {σ : Hp} {h : Heap} {m : Str -> Option Value} {news : Led} {φ : List Addr} {tk : Nat} {P : V -> Hp -> Prop} {Q E : Value -> Shared -> Prop}
    (C : CxZ (Z0 w base fz g d os T pin H) A env top outer h₀ L sc (n + 2)) (S : SimZ (Z0 w base fz g d os T pin H) h₀ L m h news φ σ) (ru : VRZ (Z0 w base fz g d os T pin H) news φ u (.vls l)) (hp : P (.obj n_TokenRow σ.length) (σ ++ [.row [] l (.bool false)])) (hK : KE (Z0 w base fz g d os T pin H) h₀ L m news φ P Q) :
    wpAny (model pw_sj0033_01 w) A (call (.ref 127) [u]) Q E ⟨h, g, d, tk, os⟩ := by
  have ii : findIn (K0 w.params) (.ref 127) "__init__" = some (some (.ref 117)) := by kernel_rfl
  refine call_cls (s := ⟨h, g, d, tk, os⟩) S.F C.X S.N (K := K0 w.params) (by kernel_rfl) ii (by kernel_rfl) fun x dx h' F' N' l1 l2 => ?_
  have hxd : x ≠ dx := Nat.ne_of_gt l2
  have hfr : ∀ p ∈ news, p.1 ≠ dx := fun p hp => Nat.ne_of_lt (l1 p hp)
  refine enter_raw (Z := Z0 w base fz g d os T pin H) (n := n) (fo_117 _ w w.params) C.under F' N' (by kernel_rfl) fun {A' env' L' g₀ h₁ m' tk₁ Q' E'} C' ow F₁ N₁ lk ret => ?_
  refine wpAny_execs_cons (init_set (cn := n_TokenRow) (kok0 w.params) rfl C' ow F₁ N₁ hxd hfr .nil (by decide) (lk _ _ (by kernel_rfl)) (by kernel_rfl) (by rfl) (by rfl) (fun hq => name_raw C' ow F₁ (lk _ _ (by kernel_rfl)) (hq _ _ ru)) fun h₂ tk₂ es₂ k₂ F₂ N₂ r₂ => ?_)
  refine wpAny_execs_cons (init_set (cn := n_TokenRow) (kok0 w.params) rfl C' ow F₂ N₂ hxd hfr r₂ (by decide) (lk _ _ (by kernel_rfl)) (by kernel_rfl) (by rfl) (by rfl) (fun hq => wpAny_Constant_int (hq _ _ (.int 0 _))) fun h₃ tk₃ es₃ k₃ F₃ N₃ r₃ => ?_)
  refine wpAny_execs_cons (init_set (cn := n_TokenRow) (kok0 w.params) rfl C' ow F₃ N₃ hxd hfr r₃ (by decide) (lk _ _ (by kernel_rfl)) (by kernel_rfl) (by rfl) (by rfl) (fun hq => Constant_bool (hq _ _ (.bool false))) fun h₄ tk₄ es₄ k₄ F₄ N₄ r₄ => ?_)
  refine wpAny_execs_nil (ret (.inr ⟨rfl, rfl⟩) F₄ N₄ fun F5 N5 => ⟨rfl, ?_⟩)
  have Nd : News h₀ L h₄ ((dx, dictOf es₄ k₄) :: news) := fun p hp => N5 p (.tail _ hp)
  have r5 : VFs CA0 (FX0 pw_sj0033_01 w pin) news φ H es₄ [n_tokens, n_place, n_parted] [.vls ([] ++ l), .int (.ofNat ([] : List V).length), .bool false] := r₄
  have ex : Ext H news φ ((dx, dictOf es₄ k₄) :: news) (φ ++ [dx]) := ⟨⟨[dx], rfl⟩, fun p hp h1 _ => ⟨.tail _ hp, fun q => by
    rcases List.mem_append.mp q with q | q
    · exact h1 q
    · exact hfr p hp (List.mem_singleton.mp q)⟩⟩
  obtain ⟨S1, E1⟩ := S.pushM (o := dictOf es₄ k₄) (ao := .row [] l (.bool false)) l1 F5 Nd (.row (.head _) (VFs.mono ex r5))
  have l3 : ∀ p ∈ (dx, dictOf es₄ k₄) :: news, p.1 < x := fun p hp => by
    rcases List.mem_cons.mp hp with rfl | hp
    · exact l2
    · exact Nat.lt_trans (l1 p hp) l2
  obtain ⟨S2, E2⟩ := S1.push l3 F5 N5
  exact hK _ _ hp _ _ _ _ _ S2 (E1.trans E2) (.obj (C := 127) (d := dx) rfl (.head _) (off_new S1 l3) (by rw [<- S.φl]; simp))
theorem row_attr {A : Around} {env top : PySem.Env} {outer : List PySem.Env} {h₀ : Heap} {L : Addr} {sc : List (Str × NameKind)} {ρ : Mine.Env} {σ : Hp} {h : Heap} {m : Str -> Option Value} {news : Led} {φ : List Addr} {tk : Nat} {i : Nat} {pre rest : List V} {pt y : V} {o f : Str} {p1 p2 : Pos} {Q E : Value -> Shared -> Prop}
    (C : CxZ (Z0 w base fz g d os T pin H) A env top outer h₀ L sc n) (S : SimZ (Z0 w base fz g d os T pin H) h₀ L m h news φ σ) (O : LO (Z0 w base fz g d os T pin H) env L news φ m ρ) (hv : look ρ.ks ρ.vs o.cps.toList = some (.obj n_TokenRow i)) (hs : σ[i]? = some (.row pre rest pt))
    (hf : memN attrNs f.cps.toList = true) (hl : look [n_tokens, n_place, n_parted] [.vls (pre ++ rest), .int (.ofNat pre.length), pt] f.cps.toList = some y) (hq : ∀ v tk', VRZ (Z0 w base fz g d os T pin H) news φ v y -> Q v ⟨h, g, d, tk', os⟩) :
    wpAny (model pw_sj0033_01 w) A (eval (.Attribute (.Name o p1) f p2) env) Q E ⟨h, g, d, tk, os⟩ := by
  refine Attribute_any_ (name_at (Z := Z0 w base fz g d os T pin H) C S O hv fun u ru => ?_) (by rw [arm_eval_Attribute, attributeBase_ok (by rfl)])
  obtain ⟨_, _, _, rfl, hC, mm, off, hi⟩ := ru.obj_e
  · obtain ⟨_, _, m2, r⟩ := (S.or_at hs hi).row_e
    obtain ⟨v, hv, rv⟩ := getL_of r hl
    have KO : KOk (Z0 w base fz g d os T pin H).K (Z0 w base fz g d os T pin H).CA := kok0 w.params
    exact get_own (s := ⟨h, g, d, tk, os⟩) (ox := instObj _ _) S.F C.X (InstAt.of_news S.N mm m2) (KO.get _ _ hC f) (KO.hd _ _ hC) (KO.attr _ _ hC f hf) rfl hv (handed_VR rv) (hq _ _ rv)
set_option tactic.hygienic true
theorem next_sound {A : Around} {env top : PySem.Env} {outer : List PySem.Env} {h₀ : Heap} {L : Addr} {sc : List (Str × NameKind)} {u : Value} {i : Nat} {σ : Hp} {h : Heap} {m : Str -> Option Value} {news : Led} {φ : List Addr} {tk : Nat} {P : V -> Hp -> Prop} {Q E : Value -> Shared -> Prop} {pre rest : List V} {pt : V}
    (C : CxZ (Z0 w base fz g d os T pin H) A env top outer h₀ L sc (n + 4)) (S : SimZ (Z0 w base fz g d os T pin H) h₀ L m h news φ σ) (ru : VRZ (Z0 w base fz g d os T pin H) news φ u (.obj n_TokenRow i)) (hs : σ[i]? = some (.row pre rest pt))
    (hp : nextL pre rest pt i σ P) (hK : KE (Z0 w base fz g d os T pin H) h₀ L m news φ P Q) :
    wpAny (model pw_sj0033_01 w) A (call (.ref 124) [u]) Q E ⟨h, g, d, tk, os⟩ := by
  refine wpAny_call (enter_def (Z := Z0 w base fz g d os T pin H) (n := n + 3) (fo_124 _ w w.params) C S (.cons ru .nil) rfl fun {A' env' L' g₀ h₁ m' tk₁ Q' E'} C' ow S' O' hE ret raise => ?_)
  have ls : look (fx (ms 11 1)).params [V.obj n_TokenRow i] (Str.ofString "self").cps.toList = some (.obj n_TokenRow i) := by kernel_rfl
  refine wpAny_execs_cons (wpAny_If (truth_cmp (wpAny_Compare1 (row_attr C' S' O' ls hs (by kernel_rfl) (by rfl) fun v tk₂ rv => ?_) (by rfl))))
  refine Call_ (name_bi (Z := Z0 w base fz g d os T pin H) C' S' (by kernel_rfl) (by kernel_rfl) (fv := .builtin "len") (by decide +kernel) (by decide +kernel) ?_) (by rfl)
  refine callWith_method1 (spliced_more (row_attr C' S' O' ls hs (by kernel_rfl) (by rfl) fun v₂ tk₃ rv₂ => spliced_none ?_) (by rfl))
  refine len_rule (P := fun x σ' => x = .int (pre ++ rest).length /\ σ' = σ) S' rv₂ (.inr rfl) ⟨rfl, rfl⟩ fun x σ' hx v₃ h₂ tk₄ news₂ φ₂ S₂ E₂ rv₃ => ?_
  obtain ⟨rfl, rfl⟩ := hx
  obtain ⟨_, rfl⟩ := rv.int_e
  obtain ⟨_, rfl⟩ := rv₃.int_e
  refine ge_int ⟨_, rfl, ?_⟩
  have O₂ := O'.mono E₂
  split
  · rename_i hle
    have hr : rest = [] := by
      have : (pre.length : Int) + rest.length <= pre.length := by simpa using hle
      exact List.length_eq_zero_iff.mp (by omega)
    subst hr
    refine wpAny_execs_cons (wpAny_Return_some (Call_ (name_ref (Z := Z0 w base fz g d os T pin H) C' S₂ (by kernel_rfl) (fv := .ref 99) (by kernel_rfl) ?_) (by rfl)))
    refine callWith_K (K := K0 w.params) C'.X (by kernel_rfl) (spliced_more (Constant_str (spliced_more (Constant_str (spliced_more (UnaryOp_ (wpAny_Constant_int (neg_int (spliced_none ⟨C'.X.keeps S₂.F.keep, ?_⟩)))) (by rfl))) (by rfl))) (by rfl)) (by rfl) (by rfl)
    refine token_made (n := n + 1) (φ := φ₂) (xa := .str n_eof) (xb := .str []) (xc := .int (-1)) (C'.down (by omega)) S₂.F S₂.N (.str _ _ _ (by kernel_rfl) (by kernel_rfl)) (.str _ _ _ (by kernel_rfl) (by kernel_rfl)) (.int _ _) fun x dx es k h₃ tk₅ F₃ N₃ l1 l2 r => ?_
    obtain ⟨S₃, E₃, r₃⟩ := token_push S₂ F₃ N₃ l1 l2 r
    exact ret (.inl rfl) S₃ fun S₄ => hK _ _ hp _ _ _ _ _ S₄ (E₂.trans E₃) r₃
  · rename_i hlt
    obtain ⟨t, r, hr⟩ : ∃ t r, rest = t :: r := by
      cases rest with
      | nil => simp at hlt
      | cons t r => exact ⟨t, r, rfl⟩
    subst hr
    refine wpAny_execs_nil ?_
    refine wpAny_execs_cons (Assign_any (by rfl) (by rfl) (by rfl) (Subscript_ (row_attr C' S₂ O₂ ls hs (by kernel_rfl) (by rfl) fun v tk₅ rv => row_attr C' S₂ O₂ ls hs (by kernel_rfl) (by rfl) fun v' tk₆ rv' => ?_)))
    obtain ⟨_, rfl⟩ := rv'.int_e
    obtain ⟨_, _, _, rfl, mm, off, rr, z⟩ := rv.vls_e
    obtain ⟨tv, htv, rt⟩ := rr.get (k := pre.length) (x := t) (by simp)
    have hz : lineL = 4096 := rfl
    refine listTail (s := ⟨h₂, g, d, tk₆, os⟩) (S₂.N.isList mm) (Int.natCast_nonneg _) (by simp at z; simp only [Int.ofNat_eq_natCast]; omega) (x := tv) (by simpa using htv) ?_ (plainIdx_sub (by rfl) _ _)
    have hloc := C'.env_.locOk (x := Str.ofString "token") (by kernel_rfl)
    refine wpAny_assign_Name (storeG C'.env_ ow.2 hloc.1 S₂.F S₂.N fun h₃ F₃ N₃ => ?_)
    have S₃ := S₂.frame F₃ N₃
    have O₃ := O₂.put hloc.2 hloc.1 ow.2 rt
    have ls' : look ((Mine.Env.put ⟨(fx (ms 11 1)).nm, (fx (ms 11 1)).sc, (fx (ms 11 1)).params, [V.obj n_TokenRow i]⟩ (Str.ofString "token").cps.toList t)).ks ((Mine.Env.put ⟨(fx (ms 11 1)).nm, (fx (ms 11 1)).sc, (fx (ms 11 1)).params, [V.obj n_TokenRow i]⟩ (Str.ofString "token").cps.toList t)).vs (Str.ofString "self").cps.toList = some (.obj n_TokenRow i) := by kernel_rfl
    have lt' : look ((Mine.Env.put ⟨(fx (ms 11 1)).nm, (fx (ms 11 1)).sc, (fx (ms 11 1)).params, [V.obj n_TokenRow i]⟩ (Str.ofString "token").cps.toList t)).ks ((Mine.Env.put ⟨(fx (ms 11 1)).nm, (fx (ms 11 1)).sc, (fx (ms 11 1)).params, [V.obj n_TokenRow i]⟩ (Str.ofString "token").cps.toList t)).vs (Str.ofString "token").cps.toList = some t := by kernel_rfl
    refine wpAny_execs_cons (Assign_any (by rfl) (by rfl) (by rfl) (wpAny_BinOp (row_attr C' S₃ O₃ ls' hs (by kernel_rfl) (by rfl) fun v tk₇ rv => wpAny_Constant_int ?_)))
    obtain ⟨_, rfl⟩ := rv.int_e
    refine add_int ?_
    show wpAny _ _ (holding [_] (eval (.Name (Str.ofString "self") _) env') >>= fun ov => standAt _ >>= fun _ => holding [_, ov] (setAttr ov (Str.ofString "place") _) >>= fun _ => release [_, ov] []) _ _ _
    refine wpAny_bind (wpAny_holding (name_at (Z := Z0 w base fz g d os T pin H) C' S₃ O₃ ls' fun u ru => ?_))
    refine wpAny_bind (wpAny_standAt (wpAny_bind (wpAny_holding ?_)))
    obtain ⟨aa, CC, dd, rfl, hC, mm₂, off₂, hi⟩ := ru.obj_e
    · obtain ⟨_, _, m2, rf⟩ := (S₃.or_at hs hi).row_e
      have KO : KOk (Z0 w base fz g d os T pin H).K (Z0 w base fz g d os T pin H).CA := kok0 w.params
      have hlen : Int.ofNat pre.length + 1 = Int.ofNat (pre ++ [t]).length := by simp
      refine setA_rule (prog := pw_sj0033_01) (w := w) (ao := fun _ _ => .inst [] []) KO C'.X S₃ hC mm₂ hi m2 rf (by decide) (by kernel_rfl) (y := .int (.ofNat (pre ++ [t]).length)) (by rw [hlen]; exact .int _ _) fun h₄ tk₈ es' n' F₄ N₄ V₄ M₄ => ?_
      have V₅ : VFs CA0 (FX0 pw_sj0033_01 w pin) (updL dd (dictOf es' n') news₂) φ₂ H es' [n_tokens, n_place, n_parted] [.vls ((pre ++ [t]) ++ r), .int (.ofNat (pre ++ [t]).length), pt] := by
        have e : pre ++ t :: r = (pre ++ [t]) ++ r := by simp
        rw [<- e]
        exact V₄
      obtain ⟨S₄, E₄⟩ := S₃.upd (ao := .row (pre ++ [t]) r pt) hi F₄ N₄ (.row M₄ V₅)
      refine wpAny_release' ?_
      refine wpAny_execs_cons (wpAny_Return_some (name_at (Z := Z0 w base fz g d os T pin H) C' S₄ (O₃.mono E₄) lt' fun u ru => ?_))
      exact ret (.inl rfl) S₄ fun S₅ => hK _ _ hp _ _ _ _ _ S₅ (E₂.trans E₄) ru
end
end Mine
end

section
open PySem PySem.W PySem.Calls PyProof.Rows
open Builtin Builtin.ObjectAttr
namespace Mine
section
variable (prog : Program) (w : World) (P : Params)
set_option tactic.hygienic false
theorem k57 : (K0 P).lookup 57 = some ⟨.type "tuple", none, .seq #[.int (-1) 251, .str (Str.ofString "") 252] 0, #[]⟩ := by kernel_rfl
theorem fo_64 : FnOk prog w CA0 (K0 P) (fx (ms 7 0)) 64 := by
  have hb : (fx (ms 7 0)).body = sB (ms 7 0) := by kernel_rfl
  have hl : (K0 P).lookup 64 = some ⟨.type "function", none, .func (PySem.W.fnOf (Str.ofString "__init__") (Str.ofString "GateloomError.__init__") (sP (ms 7 0)) (sB (ms 7 0)) (sS (ms 7 0)) (.ref 57) .none .none (.str (Str.ofString "gateloom.errors") 236) none (.ref 63) .none), #[]⟩ := by kernel_rfl
  refine ⟨(Str.ofString "__init__"), (Str.ofString "GateloomError.__init__"), sP (ms 7 0), sS (ms 7 0), (.ref 57), .none, .none, (.str (Str.ofString "gateloom.errors") 236), none, (.ref 63), .none, _, _, _, pnOf (ms 7 0), by rw [hb]; exact hl, by kernel_rfl, by kernel_rfl, by kernel_rfl, by kernel_rfl, by kernel_rfl, no_cell (by kernel_rfl), by kernel_rfl, fun x hx => all_of (p := fun x => isLoc (sS (ms 7 0)).names x.cps.toList) (l := pnOf (ms 7 0)) (by kernel_rfl) x hx, nodup_str (by kernel_rfl), ?_, ?_⟩
  · rw [hb]
    intro s vs X hv
    exact of_len4 (vs := vs) hv fun a b c d => binds_K (T := 57) X rfl (k57 P) rfl rfl rfl
  · rw [hb]
    intro d ds e
    have hd : (fx (ms 7 0)).dflt = [.str []] := by kernel_rfl
    rw [hd] at e
    cases e
    refine ⟨.str (Str.ofString "") 252, fun pin H news φ => .str _ _ _ (by decide +kernel) rfl, fun s vs X hv => ?_⟩
    exact of_len3 (vs := vs) (Nat.succ.inj hv) fun a b c => binds_K (T := 57) X rfl (k57 P) rfl rfl rfl
noncomputable def cd80 : ClassData := ⟨(Str.ofString "SourceError"), [(.ref 67)], [(.ref 80), (.ref 67), (.type "Exception"), (.type "BaseException"), (.type "object")], 79, (Str.ofString "SourceError"), true, [], [], false, none, false⟩
theorem k80 : (K0 P).lookup 80 = some (excClassObj (Str.ofString "SourceError") (Str.ofString "SourceError") 80 79 [.ref 67] [(.ref 67), (.type "Exception"), (.type "BaseException"), (.type "object")] true [] [] false none none (some (.ref 71)) none (some (.str (Str.ofString "SourceError") 274)) (some (.str (Str.ofString "SourceError") 282)) (some (.bool true)) "Exception.__new__") := by kernel_rfl
theorem ec80 : ExcCls (K0 P) 80 cd80 where
  cls := by kernel_rfl
  obj := by decide +kernel
  base := by decide +kernel
  ne := rfl
  pass := fun self => by rfl
  hd := rfl
  sat := by kernel_rfl
  ga := by kernel_rfl
  gh := by kernel_rfl
theorem tk80 : ∀ l ∈ [n_kind, n_at, n_detail], takerIn (K0 P) 80 (mk l) = some none := by
  intro l hl
  simp only [List.mem_cons, List.not_mem_nil, or_false] at hl
  rcases hl with rfl | rfl | rfl <;> kernel_rfl
end
section
variable {w : World} {base : Heap} {fz : Led} {g : Array GenState} {d : Drawn} {os : OsState} {T : Tab} {pin : Led} {H : List Addr} {n : Nat}
noncomputable abbrev excObj (t : Addr) (D : Option Addr) : Obj := { cls := .ref 80, dict := D, data := .fields #[.ref t, .none, .none, .none, .bool false, .none] }
theorem fr_push {h₀ h h' : Heap} {L : Addr} {m : Str -> Option Value} {news : Led} {a : Addr} {o : Obj} (F : Fr h₀ L h m) (N : News h₀ L h news) (ha : a = h.objs.size) (hk : ∀ b ob, h.get? b = some ob -> h'.get? b = some ob) (ho : h'.get? a = some o) : Fr h₀ L h' m /\ News h₀ L h' ((a, o) :: news) /\ ∀ p ∈ news, p.1 < a := by
  refine ⟨⟨F.ns.at' fun ob e => hk _ ob e, fun b ob e => hk b ob (F.keep b ob e), F.above⟩, fun p hp => ?_, fun p hp => ha ▸ Heap.lt_size (N p hp).1⟩
  rcases List.mem_cons.mp hp with rfl | hp
  · subst ha
    refine ⟨ho, Nat.ne_of_gt F.ns.lt, ?_⟩
    cases e : h₀.get? h.objs.size with
    | none => rfl
    | some o => exact absurd (Heap.lt_size (F.keep _ _ e)) (Nat.lt_irrefl _)
  · exact ⟨hk _ _ (N p hp).1, (N p hp).2⟩
theorem exc_set0 {A : Around} {env top : PySem.Env} {outer : List PySem.Env} {h₀ : Heap} {L : Addr} {sc : List (Str × NameKind)} {h : Heap} {m : Str -> Option Value} {tk : Nat} {news : Led} {e t : Addr} {self f x : Str} {p1 p2 p3 pos : Pos} {v : Value} {Q : PySem.Flow -> Shared -> Prop} {E : Value -> Shared -> Prop}
    (C : CxZ (Z0 w base fz g d os T pin H) A env top outer h₀ L sc n) (ow : Own env top L) (F : Fr h₀ L h m) (N : News h₀ L h ((e, excObj t none) :: news)) (hfr : ∀ p ∈ news, p.1 ≠ e)
    (hs : m self = some (.ref e) /\ env.kindOf self = some .local /\ (self == ("__debug__" : Str)) = false) (hx : m x = some v /\ env.kindOf x = some .local /\ (x == ("__debug__" : Str)) = false) (hf : f.cps.toList ∈ [n_kind, n_at, n_detail])
    (q : ∀ h' tk' hs' tt D k, Fr h₀ L h' m -> News h₀ L h' ((D, dictOf [⟨hs', .str f tt, v⟩] k) :: (e, excObj t (some D)) :: news) -> (∀ p ∈ (e, excObj t none) :: news, p.1 < D) -> Q .next ⟨h', g, d, tk', os⟩) :
    wpAny (model pw_sj0033_01 w) A (exec (.Assign [.Attribute (.Name self p1) f p2] (.Name x p3) pos) env) Q E ⟨h, g, d, tk, os⟩ := by
  refine Assign_any (by rfl) (by rfl) (by rfl) (name_raw C ow F hx ?_)
  show wpAny _ _ (holding [v] (eval (.Name self p1) env) >>= fun ov => standAt p2.atName >>= fun _ => holding [v, ov] (setAttr ov f v) >>= fun _ => release [v, ov] []) _ E _
  refine wpAny_bind (wpAny_holding (name_raw C ow F hs ?_))
  refine wpAny_bind (wpAny_standAt (wpAny_bind (wpAny_holding ?_)))
  have X : (K0 w.params).In h := C.X.keeps F.keep
  have I : InstAt h e (excObj t none) 80 none := ⟨N.get (.head _), rfl, rfl, trivial⟩
  have ht : takerIn (K0 w.params) 80 f = some none := by have := tk80 w.params _ hf; rwa [mk_eq] at this
  refine set_plain (s := ⟨h, g, d, tk, os⟩) X I (ec80 w.params).sat ?_
  refine osaX_none (s := ⟨h, g, d, tk + 1, os⟩) (ec80 w.params) X I rfl rfl ht fun hs' h' k' hk he hD => ?_
  have hm : h.get? e = some (excObj t none) := N.get (.head _)
  have NE := N _ (.head _)
  have lt : ∀ p ∈ (e, excObj t none) :: news, p.1 < h.objs.size := fun p hp => Heap.lt_size (N p hp).1
  have F' : Fr h₀ L h' m := ⟨F.ns.at' fun ob q => hk _ ob (Ne.symm NE.2.1) q, fun b ob q => hk b ob (fun z => by have := NE.2.2; simp only at this; rw [<- z, q] at this; cases this) (F.keep b ob q), F.above⟩
  suffices N' : News h₀ L h' ((h.objs.size, dictOf [⟨hs', .str f (tk + 1), v⟩] k') :: (e, excObj t (some h.objs.size)) :: news) from wpAny_release' (q h' _ hs' _ h.objs.size k' F' N' lt)
  intro p hp
  rcases List.mem_cons.mp hp with rfl | hp
  · refine ⟨hD, Nat.ne_of_gt F.ns.lt, ?_⟩
    cases q : h₀.get? h.objs.size with
    | none => rfl
    | some o => exact absurd (Heap.lt_size (F.keep _ _ q)) (Nat.lt_irrefl _)
  · rcases List.mem_cons.mp hp with rfl | hp
    · exact ⟨he, NE.2⟩
    · exact ⟨hk _ _ (hfr p hp) (N p (.tail _ hp)).1, (N p (.tail _ hp)).2⟩
theorem exc_set {A : Around} {env top : PySem.Env} {outer : List PySem.Env} {h₀ : Heap} {L : Addr} {sc : List (Str × NameKind)} {h : Heap} {m : Str -> Option Value} {tk : Nat} {news : Led} {φ : List Addr} {e t D : Addr} {es : List DictEntry} {k : Nat} {ks : List N} {l : List V} {self f x : Str} {p1 p2 p3 pos : Pos} {v : Value} {y : V} {Q : PySem.Flow -> Shared -> Prop} {E : Value -> Shared -> Prop}
    (C : CxZ (Z0 w base fz g d os T pin H) A env top outer h₀ L sc n) (ow : Own env top L) (F : Fr h₀ L h m) (N : News h₀ L h ((D, dictOf es k) :: (e, excObj t (some D)) :: news)) (hfr : ∀ p ∈ (e, excObj t none) :: news, p.1 < D) (r : VFs CA0 (FX0 pw_sj0033_01 w pin) news φ H es ks l) (hz : ks.length <= 20) (rv : VRZ (Z0 w base fz g d os T pin H) news φ v y)
    (hs : m self = some (.ref e) /\ env.kindOf self = some .local /\ (self == ("__debug__" : Str)) = false) (hx : m x = some v /\ env.kindOf x = some .local /\ (x == ("__debug__" : Str)) = false) (hf : f.cps.toList ∈ [n_kind, n_at, n_detail])
    (q : ∀ h' tk' es' k', Fr h₀ L h' m -> News h₀ L h' ((D, dictOf es' k') :: (e, excObj t (some D)) :: news) -> VFs CA0 (FX0 pw_sj0033_01 w pin) news φ H es' (putK ks f.cps.toList) (putV ks l f.cps.toList y) -> Q .next ⟨h', g, d, tk', os⟩) :
    wpAny (model pw_sj0033_01 w) A (exec (.Assign [.Attribute (.Name self p1) f p2] (.Name x p3) pos) env) Q E ⟨h, g, d, tk, os⟩ := by
  refine Assign_any (by rfl) (by rfl) (by rfl) (name_raw C ow F hx ?_)
  show wpAny _ _ (holding [v] (eval (.Name self p1) env) >>= fun ov => standAt p2.atName >>= fun _ => holding [v, ov] (setAttr ov f v) >>= fun _ => release [v, ov] []) _ E _
  refine wpAny_bind (wpAny_holding (name_raw C ow F hs ?_))
  refine wpAny_bind (wpAny_standAt (wpAny_bind (wpAny_holding ?_)))
  have X : (K0 w.params).In h := C.X.keeps F.keep
  have I : InstAt h e (excObj t (some D)) 80 (some (dictOf es k)) := ⟨N.get (.tail _ (.head _)), rfl, rfl, N.get (.head _)⟩
  have ht : takerIn (K0 w.params) 80 f = some none := by have := tk80 w.params _ hf; rwa [mk_eq] at this
  refine set_plain (s := ⟨h, g, d, tk, os⟩) X I (ec80 w.params).sat ?_
  refine osaX_some (s := ⟨h, g, d, tk + 1, os⟩) (ec80 w.params) X I rfl (N.get (.head _)) ht (getL_some r f) (by have := r.len; omega) fun hs' h' hsb hD => ?_
  have ND := N _ (.head _)
  have ne : ∀ p ∈ (e, excObj t (some D)) :: news, p.1 ≠ D := fun p hp => by
    rcases List.mem_cons.mp hp with rfl | hp
    · exact Nat.ne_of_lt (hfr (e, excObj t none) (.head _))
    · exact Nat.ne_of_lt (hfr _ (.tail _ hp))
  have F' : Fr h₀ L h' m := ⟨F.ns.at' fun ob q => (hsb.2 _ (Ne.symm ND.2.1)).trans q, fun b ob q => (hsb.2 b (fun z => by have := ND.2.2; simp only at this; rw [<- z, q] at this; cases this)).trans (F.keep b ob q), F.above⟩
  suffices N' : News h₀ L h' ((D, dictOf (putL f hs' (.str f (tk + 1)) v es) (putN f es k)) :: (e, excObj t (some D)) :: news) from wpAny_release' (q h' _ _ _ F' N' (r.put rv))
  intro p hp
  rcases List.mem_cons.mp hp with rfl | hp
  · exact ⟨hD, ND.2⟩
  · exact ⟨(hsb.2 _ (ne p hp)).trans (N p (.tail _ hp)).1, (N p (.tail _ hp)).2⟩
end
end Mine
end

section
open PySem PySem.W PySem.Calls PyProof.Rows
open Builtin Builtin.ObjectAttr
namespace Mine
section
variable {w : World} {base : Heap} {fz : Led} {g : Array GenState} {d : Drawn} {os : OsState} {T : Tab} {pin : Led} {H : List Addr} {n : Nat}
set_option tactic.hygienic false
theorem exc_init {A : Around} {env top : PySem.Env} {outer : List PySem.Env} {h₀ : Heap} {L : Addr} {sc : List (Str × NameKind)} {a b c : Value} {xa xb xc : V} {h : Heap} {m : Str -> Option Value} {news : Led} {φ : List Addr} {e t : Addr} {tk : Nat} {Q : Value -> Shared -> Prop} {E : Value -> Shared -> Prop}
    (C : CxZ (Z0 w base fz g d os T pin H) A env top outer h₀ L sc (n + 1)) (F : Fr h₀ L h m) (N : News h₀ L h ((e, excObj t none) :: news)) (hfr : ∀ p ∈ news, p.1 ≠ e) (ra : VRZ (Z0 w base fz g d os T pin H) news φ a xa) (rb : VRZ (Z0 w base fz g d os T pin H) news φ b xb) (rc : VRZ (Z0 w base fz g d os T pin H) news φ c xc)
    (hQ : ∀ D es k h' tk', Fr h₀ L h' m -> News h₀ L h' ((D, dictOf es k) :: (e, excObj t (some D)) :: news) -> (∀ p ∈ (e, excObj t none) :: news, p.1 < D) -> VFs CA0 (FX0 pw_sj0033_01 w pin) news φ H es [n_kind, n_at, n_detail] [xa, xb, xc] -> Q .none ⟨h', g, d, tk', os⟩) :
    wpAny (model pw_sj0033_01 w) A (call (.ref 64) [.ref e, a, b, c]) Q E ⟨h, g, d, tk, os⟩ := by
  refine wpAny_call (enter_raw (Z := Z0 w base fz g d os T pin H) (n := n) (fo_64 _ w w.params) C F N (by kernel_rfl) fun {A' env' L' g₀ h₁ m' tk₁ Q' E'} C' ow F₁ N₁ lk ret => ?_)
  refine wpAny_execs_cons (exc_set0 (v := a) C' ow F₁ N₁ hfr (lk _ _ (by kernel_rfl)) (lk _ _ (by kernel_rfl)) (by decide +kernel) fun h₂ tk₂ hs tt D k₂ F₂ N₂ l₂ => ?_)
  refine wpAny_execs_cons (exc_set (ks := [n_kind]) (l := [xa]) C' ow F₂ N₂ l₂ (.cons (by kernel_rfl) ra .nil) (by decide) rb (lk _ _ (by kernel_rfl)) (lk _ _ (by kernel_rfl)) (by decide +kernel) fun h₃ tk₃ es₃ k₃ F₃ N₃ r₃ => ?_)
  refine wpAny_execs_cons (exc_set C' ow F₃ N₃ l₂ r₃ (by decide) rc (lk _ _ (by kernel_rfl)) (lk _ _ (by kernel_rfl)) (by decide +kernel) fun h₄ tk₄ es₄ k₄ F₄ N₄ r₄ => ?_)
  refine wpAny_execs_nil (ret (.inr ⟨rfl, rfl⟩) F₄ N₄ fun F5 N5 => hQ _ _ _ _ _ F5 N5 l₂ r₄)
theorem raise_sound {A : Around} {env top : PySem.Env} {outer : List PySem.Env} {h₀ : Heap} {L : Addr} {sc : List (Str × NameKind)} {σ : Hp} {h : Heap} {m : Str -> Option Value} {news : Led} {φ : List Addr} {tk : Nat} {pos cpos : Pos} {np : Pos} {Q : PySem.Flow -> Shared -> Prop} {E : Value -> Shared -> Prop} {C : Str} {es : List PySem.Expr}
    (hC : leq C.cps.toList n_src = true) (hg : isGlb sc C.cps.toList = true) (hes : es.length = 3) (hns : noStar es = true) (ow : Own env top L) (c : CxZ (Z0 w base fz g d os T pin H) A env top outer h₀ L sc (n + 3)) (S : SimZ (Z0 w base fz g d os T pin H) h₀ L m h news φ σ)
    (hh : wpAny (model pw_sj0033_01 w) A (spliced (backTo cpos (starEach es env))) (fun vs s₁ => ∃ xs h₁ tk₁ news₁ φ₁ σ₁, s₁ = ⟨h₁, g, d, tk₁, os⟩ /\ SimZ (Z0 w base fz g d os T pin H) h₀ L m h₁ news₁ φ₁ σ₁ /\ VRsZ (Z0 w base fz g d os T pin H) news₁ φ₁ vs xs /\ vs.length = 3 /\ ∀ e s', RZZ (Z0 w base fz g d os T pin H) (top :: outer) news₁ φ₁ xs e s' -> E e s') E ⟨h, g, d, tk, os⟩) :
    wpAny (model pw_sj0033_01 w) A (exec (.Raise (some (.Call (.Name C np) es [] cpos)) none pos) env) Q E ⟨h, g, d, tk, os⟩ := by
  have hCe : C = mk n_src := str_ext (leq_eq hC)
  rw [arm_exec_Raise]
  refine wpAny_bind (wpAny_standAt ?_)
  show wpAny _ _ (raiseStmt env (some (eval (.Call (.Name C np) es [] cpos) env >>= fun v => standAt pos >>= fun _ => pure v)) none) _ _ _
  refine raise_made (C := 80) (nm := Str.ofString "SourceError") (q := Str.ofString "SourceError") (N := 79) (bs := [.ref 67]) (bm := [(.ref 67), (.type "Exception"), (.type "BaseException"), (.type "object")]) (hdct := true) (sn := []) (sub := []) (ab := false) (col := none) (dd := none) (k0 := some (.ref 71)) (k1 := none) (k2 := some (.str (Str.ofString "SourceError") 274)) (k3 := some (.str (Str.ofString "SourceError") 282)) (k5 := some (.bool true)) (newId := "Exception.__new__") (by decide +kernel) c.hd ?_
  have back : ∀ {Q₂ : Value -> Shared -> Prop} {s : Shared}, wpAny (model pw_sj0033_01 w) A (eval (.Call (.Name C np) es [] cpos) env) Q₂ E s -> wpAny (model pw_sj0033_01 w) A (eval (.Call (.Name C np) es [] cpos) env >>= fun v => standAt pos >>= fun _ => pure v) Q₂ E s := fun hq =>
    wpAny_bind (wpAny_mono hq (fun v s₁ q => wpAny_bind (wpAny_standAt (wpAny_pure q))) fun _ _ x => x)
  refine back ?_
  have hcls : nsIn (K0 w.params) mainGlobals C = some (some (.ref 80)) := by rw [hCe]; kernel_rfl
  refine Call_ (name_ref (Z := Z0 w base fz g d os T pin H) c S hg hcls ?_) (by rfl)
  match es, hes, hns, hh with
  | e₁ :: er, hes, hns, hh =>
    obtain ⟨h1, h2⟩ := noStar_cons hns
    refine callWith_K (K := K0 w.params) c.X (by kernel_rfl) (wpAny_mono hh (fun vs s₁ hv => ?_) fun _ _ x => x) (starEach_ok h1) (noStar_any h2)
    obtain ⟨xs, h₁, tk₁, news₁, φ₁, σ₁, rfl, S₁, rv, hvl, hE⟩ := hv
    refine ⟨c.X.keeps S₁.F.keep, ?_⟩
    obtain ⟨a, b, cc, rfl⟩ := len_three hvl
    obtain ⟨xa, xb, xc, rfl, ra, rb, rc⟩ := rv.left_three
    · skip
      have X₁ : (K0 w.params).In h₁ := c.X.keeps S₁.F.keep
      have i64 : h₁.get? 64 = some ⟨.type "function", none, .func (PySem.W.fnOf (Str.ofString "__init__") (Str.ofString "GateloomError.__init__") (sP (ms 7 0)) (sB (ms 7 0)) (sS (ms 7 0)) (.ref 57) .none .none (.str (Str.ofString "gateloom.errors") 236) none (.ref 63) .none), #[]⟩ := X₁ _ _ (by kernel_rfl)
      refine exc_call (K := K0 w.params) PySem.F.excBase_Exception (by decide +kernel) (by decide +kernel) (by decide +kernel) X₁ (X₁ _ _ (k80 w.params)) (fI := 64) (by kernel_rfl) i64 rfl fun h₂ e hm => ?_
      obtain ⟨t, he, ht, htt⟩ := hm.there
      have F₂ : Fr h₀ L h₂ m := ⟨S₁.F.ns.at' fun ob q => hm.keeps _ ob q, fun b ob q => hm.keeps b ob (S₁.F.keep b ob q), S₁.F.above⟩
      have hfr : ∀ p ∈ news₁, p.1 ≠ e := fun p hp q => by have := (S₁.N p hp).1; rw [q, hm.new] at this; cases this
      have N₂ : News h₀ L h₂ ((e, excObj t none) :: news₁) := fun p hp => by
        rcases List.mem_cons.mp hp with rfl | hp
        · refine ⟨he, fun q => ?_, ?_⟩
          · obtain ⟨ob, _, _, hob, _⟩ := S₁.F.ns
            have q : e = L := q
            rw [<- q, hm.new] at hob; cases hob
          · cases q : h₀.get? e with
            | none => rfl
            | some o => have := S₁.F.keep _ _ q; rw [hm.new] at this; cases this
        · exact ⟨hm.keeps _ _ (S₁.N p hp).1, (S₁.N p hp).2⟩
      refine exc_init (n := n) (A := A.under _) (C := c.under.down (by omega)) F₂ N₂ hfr ra rb rc fun D es k h₃ tk₃ F₃ N₃ l₃ r₃ => ⟨rfl, e, t, D, rfl, ?_, N₃.get (.tail _ (.head _)), ?_⟩
      · exact (c.X.keeps F₃.keep) _ _ (k80 w.params)
      · refine hE _ _ ?_
        obtain ⟨A₀, B⟩ := c.below
        have B' := pushX B F₃ c.tf c.tk
        have NE := N₃ _ (.tail _ (.head _))
        have stb : ∀ b o, base.get? b = some o -> h₃.get? b = some o := fun b o q => F₃.keep _ _ (B.stays _ _ q)
        have bnone : ∀ {b : Addr}, h₀.get? b = none -> base.get? b = none := fun {b} q => by
          cases q' : base.get? b with
          | none => rfl
          | some o => have := B.stays _ _ q'; rw [q] at this; cases this
        have inL : ∀ env' ∈ (top :: outer), ∀ b, env'.frame = some b -> b ∈ e :: (top :: outer).filterMap (·.frame) := fun env' he b hb => .tail _ (List.mem_filterMap.mpr ⟨env', he, hb⟩)
        have notF : ∀ {b : Addr}, b ≠ L -> h₀.get? b = none -> b ∉ (top :: outer).filterMap (·.frame) := fun {b} q1 q2 hm' => by
          obtain ⟨env', he', hf'⟩ := List.mem_filterMap.mp hm'
          rcases List.mem_cons.mp he' with rfl | he'
          · rw [c.tf] at hf'; exact q1 (Option.some.inj hf').symm
          · obtain ⟨o, ho, _⟩ := (B.frames.mem (List.mem_filterMap.mpr ⟨env', he', hf'⟩)).2
            rw [q2] at ho; cases ho
        have ndD : D ≠ e := fun q => Nat.lt_irrefl _ (q ▸ l₃ (e, excObj t none) (.head _))
        have ltD : ∀ p ∈ news₁, p.1 < D := fun p hp => l₃ p (.tail _ hp)
        have N₄ : News h₀ L h₃ ((D, dictOf es k) :: news₁) := fun p hp => by
          rcases List.mem_cons.mp hp with rfl | hp
          · exact N₃ _ (.head _)
          · exact N₃ _ (.tail _ (.tail _ hp))
        obtain ⟨S₄, E₄⟩ := S₁.push ltD F₃ N₄
        refine ⟨e, .ref t, hideAll h₃ (e :: (top :: outer).filterMap (·.frame)), h₃, tk₃, D, es, k, (D, dictOf es k) :: news₁, φ₁, excObj t (some D), rfl, rfl, fun b o q => ?_, .inl ⟨fun b o q => of_hideAll _ q, hideAll_none _ (.head _), funFrames_hide B'.frames inL, _, _, N₃.get (.tail _ (.head _)), rfl, rfl, rfl, rfl⟩, N₃.get (.tail _ (.head _)), rfl, .head _, off_new S₁ ltD, VFs.mono E₄ r₃, E₄, fun q hq => ?_, S₄.fd, S₄.nd, fun p hp => ⟨(c.fz p hp).1, let ⟨sl, q⟩ := (c.fz p hp).2; ⟨sl, F₃.keep _ _ q⟩⟩⟩
        · have q : base.get? b = some o := q
          refine hideAll_get _ (stb b o q) fun hm' => ?_
          rcases List.mem_cons.mp hm' with rfl | hm'
          · have := bnone NE.2.2
            simp only at this
            rw [this] at q; cases q
          · have this : base.get? b = none := (B'.frames.mem hm').1
            rw [this] at q; cases q
        · have Nq := N₄ q hq
          refine ⟨hideAll_get _ Nq.1 fun hm' => ?_, bnone Nq.2.2⟩
          rcases List.mem_cons.mp hm' with hm' | hm'
          · rcases List.mem_cons.mp hq with rfl | hq
            · exact ndD hm'
            · exact hfr q hq hm'
          · exact notF Nq.2.1 Nq.2.2 hm'
end
end Mine
end

section
open PySem PySem.W PySem.Calls PyProof.Rows
namespace Mine
noncomputable def T1 (orcs : List (N × (List V -> (V -> Prop) -> Prop))) (fns : List (N × Fn)) : Tab := { T0 with orcs := orcs, fns := fns }
noncomputable def OrcOk (w : World) (base : Heap) (fz : Led) (g : Array GenState) (d : Drawn) (os : OsState) (f : N) (t : List V -> (V -> Prop) -> Prop) : Prop :=
  ∃ fa, nsIn (K0 w.params) mainGlobals (mk f) = some (some (.ref fa)) /\ keepIn (K0 w.params) (.ref fa) = true /\
    ∀ (pin : Led) (H : List Addr) {A : Around} {env top : PySem.Env} {outer : List PySem.Env} {h₀ : Heap} {L : Addr} {sc : List (Str × NameKind)} {n : Nat} {vs : List Value} {xs : List V} {h : Heap} {m : Str -> Option Value} {news : Led} {φ : List Addr} {tk : Nat} {P : V -> Hp -> Prop} {Q E : Value -> Shared -> Prop},
      CxZ (Z0 w base fz g d os T0 pin H) A env top outer h₀ L sc (n + 300) -> SimZ (Z0 w base fz g d os T0 pin H) h₀ L m h news φ [] -> VRsZ (Z0 w base fz g d os T0 pin H) news φ vs xs -> t xs (fun v => P v []) -> KE (Z0 w base fz g d os T0 pin H) h₀ L m news φ P Q ->
      wpAny (model pw_sj0033_01 w) A (call (.ref fa) vs) Q E ⟨h, g, d, tk, os⟩
section
variable {w : World} {base : Heap} {fz : Led} {g : Array GenState} {d : Drawn} {os : OsState} {orcs : List (N × (List V -> (V -> Prop) -> Prop))} {fns : List (N × Fn)}
set_option tactic.hygienic false
theorem T0_simple : T0.simple = simpleT := rfl
theorem wk1 (hf : ∀ f fn, find fns f = some fn -> find T0.fns f = some fn) (ho : ∀ f t, find orcs f = some t -> OrcOk w base fz g d os f t) (pin : Led) (H : List Addr) : Wk (Z0 w base fz g d os (T1 orcs fns) pin H) where
  kok := kok0 w.params
  tab := ⟨fun f fn h => (tab0 pw_sj0033_01 w w.params).fns f fn (hf f fn h), (tab0 pw_sj0033_01 w w.params).cls, (tab0 pw_sj0033_01 w w.params).none⟩
  prims := {
    pick := fun hfa C S ru hk hQ => pick_sound hfa C S ru hk hQ
    simple := fun hf _ hC hl c S rv hp hK => simple_sound hf hC hl (c.down (Nat.add_le_add_left (by decide) _)) S rv hp hK
    row := fun _ hC c S ru hp hK => by
      cases hC
      exact row_sound (c.down (Nat.add_le_add_left (by decide) _)) S ru hp hK
    next := fun hC hfi c S ru hs hp hK => by
      cases hC
      have e : findIn (K0 w.params) (.ref 127) (mk n_next_token) = some (some (.ref 124)) := by kernel_rfl
      have hfi' : findIn (K0 w.params) (.ref 127) (mk n_next_token) = _ := hfi
      rw [e] at hfi'
      cases hfi'
      exact next_sound (c.down (Nat.add_le_add_left (by decide) _)) S ru hs hp hK
    nextAt := ⟨127, 124, rfl, by kernel_rfl, by kernel_rfl, by kernel_rfl⟩
    raise := fun hC hg hes hns ow c S hh => raise_sound hC hg hes hns ow (c.down (Nat.add_le_add_left (by decide) _)) S hh
    orc := fun hf hfa C S rv hp hK => by
      obtain ⟨fa, h1, h2, h3⟩ := ho _ _ hf
      have hfa' : nsIn (K0 w.params) mainGlobals _ = _ := hfa
      rw [h1] at hfa'
      cases hfa'
      exact h3 pin H C S rv hp hK }
  simple := fun f ks hf => by
    have hf' : find simpleT f = some ks := hf
    have := find_mem hf'
    simp only [simpleT, List.mem_cons, List.not_mem_nil, or_false, Prod.mk.injEq] at this
    obtain ⟨rfl, rfl⟩ := this
    exact ⟨99, by kernel_rfl, by kernel_rfl, rfl⟩
  row := ⟨127, by kernel_rfl, by kernel_rfl, rfl⟩
  pick := ⟨243, by kernel_rfl, by kernel_rfl⟩
  orc := fun f t hf => by
    obtain ⟨fa, h1, h2, _⟩ := ho _ _ hf
    exact ⟨fa, h1, h2⟩
theorem sound1 (hf : ∀ f fn, find fns f = some fn -> find T0.fns f = some fn) (ho : ∀ f t, find orcs f = some t -> OrcOk w base fz g d os f t) (n : Nat) (pin : Led) (H : List Addr) : OK (Z0 w base fz g d os (T1 orcs fns) pin H) n :=
  sound (Z := Z0 w base fz g d os (T1 orcs fns) pin H) (fun p h => wk1 hf ho p h) n pin H
theorem sound0 (n : Nat) (pin : Led) (H : List Addr) : OK (Z0 w base fz g d os T0 pin H) n :=
  sound1 (orcs := []) (fns := T0.fns) (fun _ _ h => h) (fun f t h => by cases h) n pin H
end
end Mine
end

section
open PySem PySem.W PyProof.Rows PySem.StrLaws
open Builtin Builtin.Str
namespace Mine
noncomputable def prefB : List Nat -> List Nat -> Bool
  | [], _ => true
  | _ :: _, [] => false
  | a :: as, b :: bs => match Nat.beq a b with
    | true => prefB as bs
    | false => false
noncomputable def occL (y : List Nat) : Nat -> Nat -> List Nat -> List Nat
  | _, _, [] => []
  | i, free, c :: r => match Nat.ble free i with
    | true => match prefB y (c :: r) with
      | true => i :: occL y (i + 1) (i + y.length) r
      | false => occL y (i + 1) free r
    | false => occL y (i + 1) free r
noncomputable def partsL (l : List Nat) (w : Nat) : Nat -> List Nat -> List (List Nat)
  | a, [] => [l.drop a]
  | a, c :: r => (l.drop a).take (c - a) :: partsL l w (c + w) r
set_option tactic.hygienic false
theorem prefB_iff : ∀ {y l : List Nat}, prefB y l = (l.take y.length == y)
  | [], l => by simp [prefB]
  | a :: as, [] => by simp [prefB]
  | a :: as, b :: bs => by
    have ih := @prefB_iff as bs
    simp only [prefB, List.length_cons, List.take_succ_cons]
    cases h : Nat.beq a b with
    | true =>
      have := Nat.eq_of_beq_eq_true h
      subst this
      simp [ih]
    | false =>
      have : b ≠ a := fun e => Nat.ne_of_beq_eq_false h e.symm
      simp [this]
theorem occ_walk (x y : Str) (hy : y.cps.toList ≠ []) : ∀ (l : List Nat) (i : Nat) (st : Array Nat × Nat), x.cps.toList.drop i = l -> i + l.length = x.length -> st.fst.size <= i ->
    (forIn (List.range' i (l.length + 1)) st (occBody x y x.length (x.length + 1))).run.fst.toList = st.fst.toList ++ occL y.cps.toList i st.snd l
  | [], i, st, hd, hl, hs => by
    have hno : ¬ (((st.fst.size < x.length + 1 /\ st.snd <= i) /\ i + y.length <= x.length) /\ subAt x y i = true) := by
      rintro ⟨⟨_, h⟩, _⟩
      have : y.length ≠ 0 := fun e => hy (List.length_eq_zero_iff.mp (by simpa [Str.length] using e))
      simp at hl
      omega
    simp only [List.length_nil, Nat.zero_add, List.range'_succ, List.range'_zero, List.forIn_cons, List.forIn_nil, occBody, if_neg hno, occL, List.append_nil]
    rfl
  | c :: r, i, st, hd, hl, hs => by
    have hd' : x.cps.toList.drop (i + 1) = r := by rw [<- List.drop_drop, hd]; rfl
    have hl' : i + 1 + r.length = x.length := by simp at hl; omega
    have hsub : subAt x y i = prefB y.cps.toList (c :: r) := by
      rw [subAt_eq, hd, prefB_iff]
      rfl
    rw [List.length_cons, List.range'_succ, List.forIn_cons]
    simp only [occL]
    cases hf : Nat.ble st.snd i with
    | false =>
      have hno : ¬ (((st.fst.size < x.length + 1 /\ st.snd <= i) /\ i + y.length <= x.length) /\ subAt x y i = true) := by
        rintro ⟨⟨⟨_, h⟩, _⟩, _⟩
        rw [Nat.ble_eq_true_of_le h] at hf; cases hf
      have e : occBody x y x.length (x.length + 1) i st = pure (ForInStep.yield st) := by unfold occBody; rw [if_neg hno]
      rw [e]
      exact occ_walk x y hy r (i + 1) st hd' hl' (Nat.le_succ_of_le hs)
    | true =>
      have hle := Nat.le_of_ble_eq_true hf
      cases hp : prefB y.cps.toList (c :: r) with
      | false =>
        have hno : ¬ (((st.fst.size < x.length + 1 /\ st.snd <= i) /\ i + y.length <= x.length) /\ subAt x y i = true) := by
          rintro ⟨_, h⟩
          rw [hsub, hp] at h; cases h
        have e : occBody x y x.length (x.length + 1) i st = pure (ForInStep.yield st) := by unfold occBody; rw [if_neg hno]
        rw [e]
        exact occ_walk x y hy r (i + 1) st hd' hl' (Nat.le_succ_of_le hs)
      | true =>
        have hyl : y.length <= (c :: r).length := by
          rw [prefB_iff] at hp
          have := congrArg List.length (eq_of_beq hp)
          rw [List.length_take] at this
          have hy' : y.cps.toList.length = y.length := by simp [Str.length]
          omega
        have hyes : ((st.fst.size < x.length + 1 /\ st.snd <= i) /\ i + y.length <= x.length) /\ subAt x y i = true :=
          ⟨⟨⟨by omega, hle⟩, by omega⟩, by rw [hsub, hp]⟩
        have e : occBody x y x.length (x.length + 1) i st = pure (ForInStep.yield (st.fst.push i, i + y.length)) := by unfold occBody; rw [if_pos hyes]
        rw [e]
        have := occ_walk x y hy r (i + 1) (st.fst.push i, i + y.length) hd' hl' (by simp; omega)
        have hy' : y.cps.toList.length = y.length := by simp [Str.length]
        rw [hy']
        simpa using this
theorem occ_list (x y : Str) (hy : y.cps.toList ≠ []) : occurrences x y 0 x.length (x.length + 1) = occL y.cps.toList 0 0 x.cps.toList := by
  rw [occ_eq]
  have hl : x.cps.toList.length = x.length := by simp [Str.length]
  have := occ_walk x y hy x.cps.toList 0 (#[], 0) (by simp) (by omega) (by simp)
  rw [hl] at this
  simpa using this
theorem parts_list (x : Str) (w : Nat) : ∀ (a : Nat) (cuts : List Nat), (partsFrom x w a cuts).map (fun s => s.cps.toList) = partsL x.cps.toList w a cuts
  | a, [] => by
    simp only [partsFrom, List.map_cons, List.map_nil, partsL, strSub_toList]
    have hl : x.cps.toList.length = x.length := by simp [Str.length]
    rw [List.take_of_length_le (by simp [hl])]
  | a, c :: r => by
    simp only [partsFrom, List.map_cons, partsL, strSub_toList]
    rw [parts_list x w (c + w) r]
theorem split_list (x y : Str) (hy : y.cps.toList ≠ []) (h1 : (decide (x.length < y.length) || decide (strKind x < strKind y)) = false) (h3 : (occL y.cps.toList 0 0 x.cps.toList).isEmpty = false) :
    (Txt.split x y).map (fun s => s.cps.toList) = partsL x.cps.toList y.length 0 (occL y.cps.toList 0 0 x.cps.toList) := by
  unfold Txt.split
  rw [if_neg (by rw [h1]; decide), occ_list x y hy, if_neg (by rw [h3]; decide), partsBetween_eq, parts_list]
noncomputable def stepsN : List Nat := [115, 116, 97, 114, 116, 32, 105, 110, 112, 117, 116, 32, 105, 110, 95, 110, 97, 109, 101, 44, 32, 115, 116, 97, 114, 116, 32, 114, 101, 103, 32, 104, 101, 108, 100, 95, 110, 97, 109, 101, 44, 32, 115, 116, 97, 114, 116, 32, 111, 117, 116, 112, 117, 116, 32, 111, 117, 116, 44, 32, 105, 110, 95, 110, 97, 109, 101, 32, 102, 105, 114, 115, 116, 32, 105, 110, 95, 98, 101, 104, 105, 110, 100, 44, 32, 105, 110, 95, 110, 97, 109, 101, 32, 110, 97, 109, 101, 32, 105, 110, 95, 98, 101, 104, 105, 110, 100, 44, 32, 105, 110, 95, 98, 101, 104, 105, 110, 100, 32, 99, 111, 109, 109, 97, 32, 105, 110, 95, 110, 97, 109, 101, 44, 32, 105, 110, 95, 98, 101, 104, 105, 110, 100, 32, 101, 110, 100, 32, 115, 116, 97, 114, 116, 44, 32, 104, 101, 108, 100, 95, 110, 97, 109, 101, 32, 102, 105, 114, 115, 116, 32, 99, 108, 111, 115, 105, 110, 103, 44, 32, 104, 101, 108, 100, 95, 110, 97, 109, 101, 32, 110, 97, 109, 101, 32, 108, 97, 116, 101, 44, 32, 111, 117, 116, 32, 114, 101, 103, 32, 111, 117, 116, 95, 110, 97, 109, 101, 44, 32, 111, 117, 116, 32, 102, 105, 114, 115, 116, 32, 111, 117, 116, 95, 98, 101, 104, 105, 110, 100, 44, 32, 111, 117, 116, 32, 110, 97, 109, 101, 32, 108, 97, 116, 101, 44, 32, 111, 117, 116, 95, 110, 97, 109, 101, 32, 102, 105, 114, 115, 116, 32, 111, 117, 116, 95, 98, 101, 104, 105, 110, 100, 44, 32, 111, 117, 116, 95, 110, 97, 109, 101, 32, 110, 97, 109, 101, 32, 108, 97, 116, 101, 44, 32, 111, 117, 116, 95, 98, 101, 104, 105, 110, 100, 32, 101, 113, 117, 97, 108, 115, 32, 102, 105, 103, 117, 114, 101, 44, 32, 111, 117, 116, 95, 98, 101, 104, 105, 110, 100, 32, 101, 110, 100, 32, 115, 116, 97, 114, 116, 44, 32, 102, 105, 103, 117, 114, 101, 32, 115, 111, 117, 110, 100, 32, 99, 108, 111, 115, 105, 110, 103, 44, 32, 99, 108, 111, 115, 105, 110, 103, 32, 101, 110, 100, 32, 115, 116, 97, 114, 116, 44, 32, 104, 101, 97, 100, 32, 111, 117, 116, 112, 117, 116, 32, 111, 110, 101, 44, 32, 111, 110, 101, 32, 114, 101, 103, 32, 116, 119, 111, 44, 32, 111, 110, 101, 32, 102, 105, 114, 115, 116, 32, 98, 101, 104, 105, 110, 100, 44, 32, 111, 110, 101, 32, 110, 97, 109, 101, 32, 98, 101, 104, 105, 110, 100, 44, 32, 116, 119, 111, 32, 102, 105, 114, 115, 116, 32, 98, 101, 104, 105, 110, 100, 44, 32, 116, 119, 111, 32, 110, 97, 109, 101, 32, 98, 101, 104, 105, 110, 100, 44, 32, 98, 101, 104, 105, 110, 100, 32, 101, 113, 117, 97, 108, 115, 32, 103, 105, 118, 101, 110, 44, 32, 98, 101, 104, 105, 110, 100, 32, 99, 111, 109, 109, 97, 32, 108, 101, 97, 100, 44, 32, 98, 101, 104, 105, 110, 100, 32, 98, 114, 97, 99, 107, 101, 116, 32, 108, 97, 115, 116, 44, 32, 103, 105, 118, 101, 110, 32, 115, 111, 117, 110, 100, 32, 116, 111, 108, 100, 44, 32, 116, 111, 108, 100, 32, 99, 111, 109, 109, 97, 32, 108, 101, 97, 100, 44, 32, 116, 111, 108, 100, 32, 98, 114, 97, 99, 107, 101, 116, 32, 108, 97, 115, 116, 44, 32, 108, 101, 97, 100, 32, 105, 110, 112, 117, 116, 32, 112, 111, 114, 116, 44, 32, 112, 111, 114, 116, 32, 102, 105, 114, 115, 116, 32, 110, 101, 120, 116, 95, 111, 110, 101, 44, 32, 112, 111, 114, 116, 32, 110, 97, 109, 101, 32, 110, 101, 120, 116, 95, 111, 110, 101, 44, 32, 110, 101, 120, 116, 95, 111, 110, 101, 32, 99, 111, 109, 109, 97, 32, 109, 111, 114, 101, 44, 32, 110, 101, 120, 116, 95, 111, 110, 101, 32, 98, 114, 97, 99, 107, 101, 116, 32, 108, 97, 115, 116, 44, 32, 109, 111, 114, 101, 32, 105, 110, 112, 117, 116, 32, 112, 111, 114, 116, 44, 32, 109, 111, 114, 101, 32, 102, 105, 114, 115, 116, 32, 110, 101, 120, 116, 95, 111, 110, 101, 44, 32, 109, 111, 114, 101, 32, 110, 97, 109, 101, 32, 110, 101, 120, 116, 95, 111, 110, 101, 44, 32, 108, 97, 115, 116, 32, 101, 110, 100, 32, 100, 111, 110, 101]
noncomputable def stepsX : Str := ⟨⟨stepsN⟩⟩
noncomputable def partsN : List (List Nat) := [[115, 116, 97, 114, 116, 32, 105, 110, 112, 117, 116, 32, 105, 110, 95, 110, 97, 109, 101], [115, 116, 97, 114, 116, 32, 114, 101, 103, 32, 104, 101, 108, 100, 95, 110, 97, 109, 101], [115, 116, 97, 114, 116, 32, 111, 117, 116, 112, 117, 116, 32, 111, 117, 116], [105, 110, 95, 110, 97, 109, 101, 32, 102, 105, 114, 115, 116, 32, 105, 110, 95, 98, 101, 104, 105, 110, 100], [105, 110, 95, 110, 97, 109, 101, 32, 110, 97, 109, 101, 32, 105, 110, 95, 98, 101, 104, 105, 110, 100], [105, 110, 95, 98, 101, 104, 105, 110, 100, 32, 99, 111, 109, 109, 97, 32, 105, 110, 95, 110, 97, 109, 101], [105, 110, 95, 98, 101, 104, 105, 110, 100, 32, 101, 110, 100, 32, 115, 116, 97, 114, 116], [104, 101, 108, 100, 95, 110, 97, 109, 101, 32, 102, 105, 114, 115, 116, 32, 99, 108, 111, 115, 105, 110, 103], [104, 101, 108, 100, 95, 110, 97, 109, 101, 32, 110, 97, 109, 101, 32, 108, 97, 116, 101], [111, 117, 116, 32, 114, 101, 103, 32, 111, 117, 116, 95, 110, 97, 109, 101], [111, 117, 116, 32, 102, 105, 114, 115, 116, 32, 111, 117, 116, 95, 98, 101, 104, 105, 110, 100], [111, 117, 116, 32, 110, 97, 109, 101, 32, 108, 97, 116, 101], [111, 117, 116, 95, 110, 97, 109, 101, 32, 102, 105, 114, 115, 116, 32, 111, 117, 116, 95, 98, 101, 104, 105, 110, 100], [111, 117, 116, 95, 110, 97, 109, 101, 32, 110, 97, 109, 101, 32, 108, 97, 116, 101], [111, 117, 116, 95, 98, 101, 104, 105, 110, 100, 32, 101, 113, 117, 97, 108, 115, 32, 102, 105, 103, 117, 114, 101], [111, 117, 116, 95, 98, 101, 104, 105, 110, 100, 32, 101, 110, 100, 32, 115, 116, 97, 114, 116], [102, 105, 103, 117, 114, 101, 32, 115, 111, 117, 110, 100, 32, 99, 108, 111, 115, 105, 110, 103], [99, 108, 111, 115, 105, 110, 103, 32, 101, 110, 100, 32, 115, 116, 97, 114, 116], [104, 101, 97, 100, 32, 111, 117, 116, 112, 117, 116, 32, 111, 110, 101], [111, 110, 101, 32, 114, 101, 103, 32, 116, 119, 111], [111, 110, 101, 32, 102, 105, 114, 115, 116, 32, 98, 101, 104, 105, 110, 100], [111, 110, 101, 32, 110, 97, 109, 101, 32, 98, 101, 104, 105, 110, 100], [116, 119, 111, 32, 102, 105, 114, 115, 116, 32, 98, 101, 104, 105, 110, 100], [116, 119, 111, 32, 110, 97, 109, 101, 32, 98, 101, 104, 105, 110, 100], [98, 101, 104, 105, 110, 100, 32, 101, 113, 117, 97, 108, 115, 32, 103, 105, 118, 101, 110], [98, 101, 104, 105, 110, 100, 32, 99, 111, 109, 109, 97, 32, 108, 101, 97, 100], [98, 101, 104, 105, 110, 100, 32, 98, 114, 97, 99, 107, 101, 116, 32, 108, 97, 115, 116], [103, 105, 118, 101, 110, 32, 115, 111, 117, 110, 100, 32, 116, 111, 108, 100], [116, 111, 108, 100, 32, 99, 111, 109, 109, 97, 32, 108, 101, 97, 100], [116, 111, 108, 100, 32, 98, 114, 97, 99, 107, 101, 116, 32, 108, 97, 115, 116], [108, 101, 97, 100, 32, 105, 110, 112, 117, 116, 32, 112, 111, 114, 116], [112, 111, 114, 116, 32, 102, 105, 114, 115, 116, 32, 110, 101, 120, 116, 95, 111, 110, 101], [112, 111, 114, 116, 32, 110, 97, 109, 101, 32, 110, 101, 120, 116, 95, 111, 110, 101], [110, 101, 120, 116, 95, 111, 110, 101, 32, 99, 111, 109, 109, 97, 32, 109, 111, 114, 101], [110, 101, 120, 116, 95, 111, 110, 101, 32, 98, 114, 97, 99, 107, 101, 116, 32, 108, 97, 115, 116], [109, 111, 114, 101, 32, 105, 110, 112, 117, 116, 32, 112, 111, 114, 116], [109, 111, 114, 101, 32, 102, 105, 114, 115, 116, 32, 110, 101, 120, 116, 95, 111, 110, 101], [109, 111, 114, 101, 32, 110, 97, 109, 101, 32, 110, 101, 120, 116, 95, 111, 110, 101], [108, 97, 115, 116, 32, 101, 110, 100, 32, 100, 111, 110, 101]]
noncomputable def mvN : List (List Nat × List Nat × List Nat) := [([115, 116, 97, 114, 116], [105, 110, 112, 117, 116], [105, 110, 95, 110, 97, 109, 101]), ([115, 116, 97, 114, 116], [114, 101, 103], [104, 101, 108, 100, 95, 110, 97, 109, 101]), ([115, 116, 97, 114, 116], [111, 117, 116, 112, 117, 116], [111, 117, 116]), ([105, 110, 95, 110, 97, 109, 101], [102, 105, 114, 115, 116], [105, 110, 95, 98, 101, 104, 105, 110, 100]), ([105, 110, 95, 110, 97, 109, 101], [110, 97, 109, 101], [105, 110, 95, 98, 101, 104, 105, 110, 100]), ([105, 110, 95, 98, 101, 104, 105, 110, 100], [99, 111, 109, 109, 97], [105, 110, 95, 110, 97, 109, 101]), ([105, 110, 95, 98, 101, 104, 105, 110, 100], [101, 110, 100], [115, 116, 97, 114, 116]), ([104, 101, 108, 100, 95, 110, 97, 109, 101], [102, 105, 114, 115, 116], [99, 108, 111, 115, 105, 110, 103]), ([104, 101, 108, 100, 95, 110, 97, 109, 101], [110, 97, 109, 101], [108, 97, 116, 101]), ([111, 117, 116], [114, 101, 103], [111, 117, 116, 95, 110, 97, 109, 101]), ([111, 117, 116], [102, 105, 114, 115, 116], [111, 117, 116, 95, 98, 101, 104, 105, 110, 100]), ([111, 117, 116], [110, 97, 109, 101], [108, 97, 116, 101]), ([111, 117, 116, 95, 110, 97, 109, 101], [102, 105, 114, 115, 116], [111, 117, 116, 95, 98, 101, 104, 105, 110, 100]), ([111, 117, 116, 95, 110, 97, 109, 101], [110, 97, 109, 101], [108, 97, 116, 101]), ([111, 117, 116, 95, 98, 101, 104, 105, 110, 100], [101, 113, 117, 97, 108, 115], [102, 105, 103, 117, 114, 101]), ([111, 117, 116, 95, 98, 101, 104, 105, 110, 100], [101, 110, 100], [115, 116, 97, 114, 116]), ([102, 105, 103, 117, 114, 101], [115, 111, 117, 110, 100], [99, 108, 111, 115, 105, 110, 103]), ([99, 108, 111, 115, 105, 110, 103], [101, 110, 100], [115, 116, 97, 114, 116]), ([104, 101, 97, 100], [111, 117, 116, 112, 117, 116], [111, 110, 101]), ([111, 110, 101], [114, 101, 103], [116, 119, 111]), ([111, 110, 101], [102, 105, 114, 115, 116], [98, 101, 104, 105, 110, 100]), ([111, 110, 101], [110, 97, 109, 101], [98, 101, 104, 105, 110, 100]), ([116, 119, 111], [102, 105, 114, 115, 116], [98, 101, 104, 105, 110, 100]), ([116, 119, 111], [110, 97, 109, 101], [98, 101, 104, 105, 110, 100]), ([98, 101, 104, 105, 110, 100], [101, 113, 117, 97, 108, 115], [103, 105, 118, 101, 110]), ([98, 101, 104, 105, 110, 100], [99, 111, 109, 109, 97], [108, 101, 97, 100]), ([98, 101, 104, 105, 110, 100], [98, 114, 97, 99, 107, 101, 116], [108, 97, 115, 116]), ([103, 105, 118, 101, 110], [115, 111, 117, 110, 100], [116, 111, 108, 100]), ([116, 111, 108, 100], [99, 111, 109, 109, 97], [108, 101, 97, 100]), ([116, 111, 108, 100], [98, 114, 97, 99, 107, 101, 116], [108, 97, 115, 116]), ([108, 101, 97, 100], [105, 110, 112, 117, 116], [112, 111, 114, 116]), ([112, 111, 114, 116], [102, 105, 114, 115, 116], [110, 101, 120, 116, 95, 111, 110, 101]), ([112, 111, 114, 116], [110, 97, 109, 101], [110, 101, 120, 116, 95, 111, 110, 101]), ([110, 101, 120, 116, 95, 111, 110, 101], [99, 111, 109, 109, 97], [109, 111, 114, 101]), ([110, 101, 120, 116, 95, 111, 110, 101], [98, 114, 97, 99, 107, 101, 116], [108, 97, 115, 116]), ([109, 111, 114, 101], [105, 110, 112, 117, 116], [112, 111, 114, 116]), ([109, 111, 114, 101], [102, 105, 114, 115, 116], [110, 101, 120, 116, 95, 111, 110, 101]), ([109, 111, 114, 101], [110, 97, 109, 101], [110, 101, 120, 116, 95, 111, 110, 101]), ([108, 97, 115, 116], [101, 110, 100], [100, 111, 110, 101])]
theorem kind_ge (x : Str) : 1 <= Builtin.Str.strKind x := by
  unfold Builtin.Str.strKind
  split
  · decide
  · split <;> decide
theorem kind_ok {x y : Str} (hl : decide (x.length < y.length) = false) (hy : Builtin.Str.strKind y = 1) : (decide (x.length < y.length) || decide (strKind x < Builtin.Str.strKind y)) = false := by
  rw [hl, hy, decide_eq_false (by have := kind_ge x; omega)]
  rfl
theorem steps_split : (Txt.split stepsX ⟨⟨[44, 32]⟩⟩).map (fun s => s.cps.toList) = partsN := by
  rw [split_list _ _ (by decide) (kind_ok (by kernel_rfl) (by kernel_rfl)) (by kernel_rfl)]
  kernel_rfl
noncomputable def wordsOk : List (List Nat) -> List (List Nat × List Nat × List Nat) -> Prop
  | [], [] => True
  | p :: ps, (a, b, c) :: r => (∀ x : Str, x.cps.toList = p -> (Txt.split x ⟨⟨[32]⟩⟩).map (fun s => s.cps.toList) = [a, b, c]) /\ wordsOk ps r
  | _, _ => False
theorem word_split {p : List Nat} {l : List (List Nat)} (h1 : (decide ((⟨⟨p⟩⟩ : Str).length < (⟨⟨[32]⟩⟩ : Str).length) || decide (strKind ⟨⟨p⟩⟩ < strKind ⟨⟨[32]⟩⟩)) = false) (h3 : (occL [32] 0 0 p).isEmpty = false) (h : partsL p 1 0 (occL [32] 0 0 p) = l) (x : Str) (hx : x.cps.toList = p) :
    (Txt.split x ⟨⟨[32]⟩⟩).map (fun s => s.cps.toList) = l := by
  subst hx
  have := split_list x ⟨⟨[32]⟩⟩ (by decide) (by simpa using h1) (by simpa using h3)
  rw [this]
  exact h
theorem words_ok : wordsOk partsN mvN :=
  ⟨word_split (kind_ok (by kernel_rfl) (by kernel_rfl)) (by kernel_rfl) (by kernel_rfl), ⟨word_split (kind_ok (by kernel_rfl) (by kernel_rfl)) (by kernel_rfl) (by kernel_rfl), ⟨word_split (kind_ok (by kernel_rfl) (by kernel_rfl)) (by kernel_rfl) (by kernel_rfl), ⟨word_split (kind_ok (by kernel_rfl) (by kernel_rfl)) (by kernel_rfl) (by kernel_rfl), ⟨word_split (kind_ok (by kernel_rfl) (by kernel_rfl)) (by kernel_rfl) (by kernel_rfl), ⟨word_split (kind_ok (by kernel_rfl) (by kernel_rfl)) (by kernel_rfl) (by kernel_rfl), ⟨word_split (kind_ok (by kernel_rfl) (by kernel_rfl)) (by kernel_rfl) (by kernel_rfl), ⟨word_split (kind_ok (by kernel_rfl) (by kernel_rfl)) (by kernel_rfl) (by kernel_rfl), ⟨word_split (kind_ok (by kernel_rfl) (by kernel_rfl)) (by kernel_rfl) (by kernel_rfl), ⟨word_split (kind_ok (by kernel_rfl) (by kernel_rfl)) (by kernel_rfl) (by kernel_rfl), ⟨word_split (kind_ok (by kernel_rfl) (by kernel_rfl)) (by kernel_rfl) (by kernel_rfl), ⟨word_split (kind_ok (by kernel_rfl) (by kernel_rfl)) (by kernel_rfl) (by kernel_rfl), ⟨word_split (kind_ok (by kernel_rfl) (by kernel_rfl)) (by kernel_rfl) (by kernel_rfl), ⟨word_split (kind_ok (by kernel_rfl) (by kernel_rfl)) (by kernel_rfl) (by kernel_rfl), ⟨word_split (kind_ok (by kernel_rfl) (by kernel_rfl)) (by kernel_rfl) (by kernel_rfl), ⟨word_split (kind_ok (by kernel_rfl) (by kernel_rfl)) (by kernel_rfl) (by kernel_rfl), ⟨word_split (kind_ok (by kernel_rfl) (by kernel_rfl)) (by kernel_rfl) (by kernel_rfl), ⟨word_split (kind_ok (by kernel_rfl) (by kernel_rfl)) (by kernel_rfl) (by kernel_rfl), ⟨word_split (kind_ok (by kernel_rfl) (by kernel_rfl)) (by kernel_rfl) (by kernel_rfl), ⟨word_split (kind_ok (by kernel_rfl) (by kernel_rfl)) (by kernel_rfl) (by kernel_rfl), ⟨word_split (kind_ok (by kernel_rfl) (by kernel_rfl)) (by kernel_rfl) (by kernel_rfl), ⟨word_split (kind_ok (by kernel_rfl) (by kernel_rfl)) (by kernel_rfl) (by kernel_rfl), ⟨word_split (kind_ok (by kernel_rfl) (by kernel_rfl)) (by kernel_rfl) (by kernel_rfl), ⟨word_split (kind_ok (by kernel_rfl) (by kernel_rfl)) (by kernel_rfl) (by kernel_rfl), ⟨word_split (kind_ok (by kernel_rfl) (by kernel_rfl)) (by kernel_rfl) (by kernel_rfl), ⟨word_split (kind_ok (by kernel_rfl) (by kernel_rfl)) (by kernel_rfl) (by kernel_rfl), ⟨word_split (kind_ok (by kernel_rfl) (by kernel_rfl)) (by kernel_rfl) (by kernel_rfl), ⟨word_split (kind_ok (by kernel_rfl) (by kernel_rfl)) (by kernel_rfl) (by kernel_rfl), ⟨word_split (kind_ok (by kernel_rfl) (by kernel_rfl)) (by kernel_rfl) (by kernel_rfl), ⟨word_split (kind_ok (by kernel_rfl) (by kernel_rfl)) (by kernel_rfl) (by kernel_rfl), ⟨word_split (kind_ok (by kernel_rfl) (by kernel_rfl)) (by kernel_rfl) (by kernel_rfl), ⟨word_split (kind_ok (by kernel_rfl) (by kernel_rfl)) (by kernel_rfl) (by kernel_rfl), ⟨word_split (kind_ok (by kernel_rfl) (by kernel_rfl)) (by kernel_rfl) (by kernel_rfl), ⟨word_split (kind_ok (by kernel_rfl) (by kernel_rfl)) (by kernel_rfl) (by kernel_rfl), ⟨word_split (kind_ok (by kernel_rfl) (by kernel_rfl)) (by kernel_rfl) (by kernel_rfl), ⟨word_split (kind_ok (by kernel_rfl) (by kernel_rfl)) (by kernel_rfl) (by kernel_rfl), ⟨word_split (kind_ok (by kernel_rfl) (by kernel_rfl)) (by kernel_rfl) (by kernel_rfl), ⟨word_split (kind_ok (by kernel_rfl) (by kernel_rfl)) (by kernel_rfl) (by kernel_rfl), ⟨word_split (kind_ok (by kernel_rfl) (by kernel_rfl)) (by kernel_rfl) (by kernel_rfl), trivial⟩⟩⟩⟩⟩⟩⟩⟩⟩⟩⟩⟩⟩⟩⟩⟩⟩⟩⟩⟩⟩⟩⟩⟩⟩⟩⟩⟩⟩⟩⟩⟩⟩⟩⟩⟩⟩⟩⟩
end Mine
end

section
open PySem PySem.W PySem.Calls PyProof.Rows
namespace Mine
noncomputable def chk3 : List (N × N × N) -> List (N × N × N) -> Bool
  | _, [] => true
  | pre, (a, b, c) :: r => match look3 pre a b with
    | some _ => false
    | none => chk3 (pre ++ [(a, b, c)]) r
set_option tactic.hygienic false
theorem mv_chk : chk3 [] mvN = true := by kernel_rfl
theorem putD_none {a b : Str} {c : N} {pre : List (N × N × N)} (h : look3 pre a.cps.toList b.cps.toList = none) :
    PyProof.V.putD (encTuple PyData.str [a, b]) (.str ⟨⟨c⟩⟩) (dctD pre) = dctD (pre ++ [(a.cps.toList, b.cps.toList, c)]) := by
  have hl := look3_D pre a b
  rw [h] at hl
  rw [putD_absent hl]
  simp [dctD, encTuple]
theorem TupTab.keepIt {prog : Program} {w : World} {news news' : Led} {a : Addr} {D : List (PyData × PyData)} (T : TupTab (PySem.strKind prog w) PyData.str news a D) (hk : ∀ p ∈ news, notIt p.2 -> p ∈ news') : TupTab (PySem.strKind prog w) PyData.str news' a D := by
  obtain ⟨lo, o, es, ep, xs, hm, hc, hd, he, hn, hx, hf⟩ := T
  refine ⟨lo, o, es, ep, xs, hk _ hm (notIt_type hc.1 (by decide) (by decide)), hc, hd, he, hn, fun x hx' => ?_, hf⟩
  obtain ⟨ok, hmk, t⟩ := hx x hx'
  exact ⟨ok, hk _ hmk (notIt_type t.1 (by decide) (by decide)), t⟩
section
variable {w : World} {base : Heap} {fz : Led} {g : Array GenState} {d : Drawn} {os : OsState} {T : Tab} {pin : Led} {H : List Addr} {n : Nat}
theorem assign_raw {A : Around} {env top : PySem.Env} {outer : List PySem.Env} {h₀ : Heap} {L : Addr} {sc : List (Str × NameKind)} {h : Heap} {m : Str -> Option Value} {tk : Nat} {news : Led} {x : Str} {np : Pos} {v : Value} {Q : Unit -> Shared -> Prop} {E : Value -> Shared -> Prop}
    (C : CxZ (Z0 w base fz g d os T pin H) A env top outer h₀ L sc n) (ow : Own env top L) (hx : isLoc sc x.cps.toList = true) (F : Fr h₀ L h m) (N : News h₀ L h news)
    (q : ∀ h' tk', Fr h₀ L h' (fun y => if y = x then some v else m y) -> News h₀ L h' news -> Q () ⟨h', g, d, tk', os⟩) : wpAny (model pw_sj0033_01 w) A (assign (.Name x np) env v) Q E ⟨h, g, d, tk, os⟩ :=
  wpAny_assign_Name (storeG C.env_ ow.2 (C.env_.locOk hx).1 F N fun h' F' N' => q h' _ F' N')
theorem steps_more {A : Around} {env top : PySem.Env} {outer : List PySem.Env} {h₀ : Heap} {L : Addr} {sc : List (Str × NameKind)} {h : Heap} {m : Str -> Option Value} {tk : Nat} {news : Led} {x y z : Str} {k : Nat} {t : Tok} {p1 p2 p3 p4 p5 : Pos} {Q : PySem.Flow -> Shared -> Prop} {E : Value -> Shared -> Prop}
    (C : CxZ (Z0 w base fz g d os T pin H) A env top outer h₀ L sc n) (ow : Own env top L) (hx : isLoc sc x.cps.toList = true) (F : Fr h₀ L h m) (N : News h₀ L h news) (hm : m x = some (.str y t)) (hz : y.length + z.length <= 4096)
    (q : ∀ h' tk' m' t', Fr h₀ L h' m' -> m' x = some (.str (y ++ z) t') -> News h₀ L h' news -> Q .next ⟨h', g, d, tk', os⟩) :
    wpAny (model pw_sj0033_01 w) A (exec (.Assign [.Name x p1] (.BinOp (.Name x p2) .Add (.Constant (.str z) k p3) p4) p5) env) Q E ⟨h, g, d, tk, os⟩ := by
  have hl := C.env_.locOk hx
  refine Assign_any (by rfl) (by rfl) (by rfl) (wpAny_BinOp (name_raw (Z := Z0 w base fz g d os T pin H) C ow F ⟨hm, hl⟩ (Calls.Constant_str (add_str (fun t' tk' => ?_) (Nat.le_trans hz line_le)))))
  refine assign_raw C ow hx F N fun h' tk'' F' N' => ?_
  exact q h' _ _ t' F' (by simp) N'
end
end Mine
end

section
open PySem PySem.W PySem.Calls PyProof.Rows
namespace Mine
section
variable {w : World} {base : Heap} {fz : Led} {g : Array GenState} {d : Drawn} {os : OsState} {T : Tab} {pin : Led} {H : List Addr} {n : Nat}
set_option tactic.hygienic false
theorem item_raw {A : Around} {env top : PySem.Env} {outer : List PySem.Env} {h₀ : Heap} {L : Addr} {sc : List (Str × NameKind)} {h : Heap} {m : Str -> Option Value} {tk : Nat} {news : Led} {x : Str} {p1 p2 p3 : Pos} {a : Addr} {vs : List Value} {nn kk j : Nat} {u : Value} {Q E : Value -> Shared -> Prop}
    (C : CxZ (Z0 w base fz g d os T pin H) A env top outer h₀ L sc n) (ow : Own env top L) (hx : isLoc sc x.cps.toList = true) (F : Fr h₀ L h m) (N : News h₀ L h news) (hm : m x = some (.ref a)) (ha : (a, listOf vs.toArray nn) ∈ news) (hj : vs[j]? = some u) (hj' : j < 100)
    (q : ∀ tk', Q u ⟨h, g, d, tk', os⟩) : wpAny (model pw_sj0033_01 w) A (eval (.Subscript (.Name x p1) (.Constant (.int j) kk p2) p3) env) Q E ⟨h, g, d, tk, os⟩ := by
  refine Subscript_ (name_raw (Z := Z0 w base fz g d os T pin H) C ow F ⟨hm, C.env_.locOk hx⟩ (wpAny_Constant_int ?_))
  exact listTail (s := ⟨h, g, d, tk + 1, os⟩) (N.isList ha) (Int.natCast_nonneg j) (by omega) (by simpa using hj) (q _) (plainIdx_sub rfl _ _)
theorem strs3 {l : List (Str × Tok)} {a b c : N} (h : (l.map (·.1)).map (fun s => s.cps.toList) = [a, b, c]) : ∃ (x y z : Str) (t u v : Tok), l = [(x, t), (y, u), (z, v)] /\ x.cps.toList = a /\ y.cps.toList = b /\ z.cps.toList = c := by
  match l, h with
  | [(x, t), (y, u), (z, v)], h =>
    simp only [List.map_cons, List.map_nil, List.cons.injEq, and_true] at h
    exact ⟨x, y, z, t, u, v, rfl, h.1, h.2.1, h.2.2⟩
  | [], h => simp at h
  | [_], h => simp at h
  | [_, _], h => simp at h
  | _ :: _ :: _ :: _ :: _, h => simp at h
inductive InvM (w : World) (h₀ : Heap) (L : Addr) (g : Array GenState) (d : Drawn) (os : OsState) (news₀ : Led) (I D ax : Addr) (l : List (Str × Tok)) (kk : Nat) (x1 : Str) (k : Nat) (s : Shared) : Prop
  | mk (i : Nat) (h : Heap) (tk : Nat) (m : Str -> Option Value) (led : Led) (oI : Obj) (pre rest : List (N × N × N)) : s = (⟨h, g, d, tk, os⟩ : Shared) -> k = l.length - i -> i <= l.length -> Fr h₀ L h m -> News h₀ L h led -> (∀ q ∈ news₀, q.1 ≠ D -> q ∈ led /\ q.1 ≠ I) -> m x1 = some (.ref D) -> TupTab (PySem.strKind pw_sj0033_01 w) PyData.str led D (dctD pre) ->
      (I, oI) ∈ led -> oI.cls = .type "list_iterator" -> oI.data = .fields #[.ref ax, .int i 0] -> (ax, listOf (strValues l).toArray kk) ∈ led -> mvN = pre ++ rest -> pre.length = i -> chk3 pre rest = true -> wordsOk (partsN.drop i) rest -> InvM w h₀ L g d os news₀ I D ax l kk x1 k s
set_option tactic.hygienic true
theorem moves_loop {A : Around} {env top : PySem.Env} {outer : List PySem.Env} {h₀ : Heap} {L : Addr} {sc : List (Str × NameKind)} {news₀ : Led} {I D ax : Addr} {l : List (Str × Tok)} {kk : Nat} {R : Result -> Shared -> Prop} {t : PySem.Expr} {body : List Stmt}
    {x1 x2 x3 : Str} (C : CxZ (Z0 w base fz g d os T pin H) A env top outer h₀ L sc n) (ow : Own env top L)
    (hl : (l.map (·.1)).map (fun s => s.cps.toList) = partsN) (hax : ax ≠ I)
    (turn : ∀ {h : Heap} {tk : Nat} {m : Str -> Option Value} {led : Led} {pre : List (N × N × N)} {a b c : N} {p : Str} {u : Tok} {Q : Unit -> Shared -> Prop} {Qf : PySem.Flow -> Shared -> Prop} {E : Value -> Shared -> Prop},
      Fr h₀ L h m -> News h₀ L h led -> m x1 = some (.ref D) -> TupTab (PySem.strKind pw_sj0033_01 w) PyData.str led D (dctD pre) -> look3 pre a b = none -> (Txt.split p ⟨⟨[32]⟩⟩).map (fun s => s.cps.toList) = [a, b, c] -> p.length <= 4096 -> pre.length <= 64 ->
      (∀ h' tk' m' led', Fr h₀ L h' m' -> News h₀ L h' led' -> (∀ q ∈ led, q.1 ≠ D -> q ∈ led') -> m' x1 = some (.ref D) -> TupTab (PySem.strKind pw_sj0033_01 w) PyData.str led' D (dctD (pre ++ [(a, b, c)])) -> Qf .next ⟨h', g, d, tk', os⟩) ->
      wpAny (model pw_sj0033_01 w) A (assign t env (.str p u)) (fun _ s => wpAny (model pw_sj0033_01 w) A (execs body env) Qf E s) E ⟨h, g, d, tk, os⟩)
    (done : ∀ {h : Heap} {tk : Nat} {m : Str -> Option Value} {led : Led}, Fr h₀ L h m -> News h₀ L h led -> (∀ q ∈ news₀, q.1 ≠ D -> q ∈ led) -> m x1 = some (.ref D) -> TupTab (PySem.strKind pw_sj0033_01 w) PyData.str led D (dctD mvN) -> R (.ok .next) ⟨h, g, d, tk, os⟩)
    (hown : ∀ (i j : Nat) (o : Obj) (v : Value) {s : Shared} {Q : Unit -> Shared -> Prop} {E : Value -> Shared -> Prop}, Q () s -> wpAny (model pw_sj0033_01 w) A (letOwnedTupleGo t (.ref I) v) Q E s)
    {h : Heap} {tk : Nat} {m : Str -> Option Value} {led : Led} (F : Fr h₀ L h m) (N : News h₀ L h led) (hk : ∀ q ∈ news₀, q.1 ≠ D -> q ∈ led /\ q.1 ≠ I) (hm : m x1 = some (.ref D)) (TT : TupTab (PySem.strKind pw_sj0033_01 w) PyData.str led D (dctD []))
    (hI : (I, { cls := .type "list_iterator", data := .fields #[.ref ax, .int 0 0] }) ∈ led) (hA : (ax, listOf (strValues l).toArray kk) ∈ led) (hID : I ≠ D) (hAD : ax ≠ D) :
    codeAny (model pw_sj0033_01 w) A (.forLoop t (.ref I) body [] env) R ⟨h, g, d, tk, os⟩ := by
  have TL : Turns (Z0 w base fz g d os T pin H) A I (strValues l).toArray.size _ _ _ := turns_list (Z := Z0 w base fz g d os T pin H) C.hd I ax (strValues l).toArray
  have hsz : (strValues l).toArray.size = l.length := by simp [strValues]
  have hpl : partsN.length = l.length := by rw [<- hl]; simp
  refine forTurns (InvM w h₀ L g d os news₀ I D ax l kk x1) (fun k s hI' => ?_) (l.length - 0)
      ⟨0, h, tk, m, led, _, [], mvN, rfl, rfl, Nat.zero_le _, F, N, hk, hm, TT, hI, rfl, rfl, hA, rfl, rfl, mv_chk, words_ok⟩
  obtain ⟨i, h, tk, m, led, oI, pre, rest, rfl, rfl, hi, F, N, hk, hm, TT, hI, st1, st2, hA, hmv, hpre, hchk, hwo⟩ := hI'
  have swap : ∀ {h' : Heap} {o' : Obj}, (∀ b ob, b ≠ I -> h.get? b = some ob -> h'.get? b = some ob) -> h'.get? I = some o' -> Fr h₀ L h' m /\ News h₀ L h' (updL I o' led) /\ (∀ q ∈ led, notIt q.2 -> q ∈ updL I o' led) := fun {h' o'} hkp ho => by
    obtain ⟨F', N'⟩ := upd_frame F N hI hkp ho
    refine ⟨F', N', fun q hq hn => updL_mem hq fun e => ?_⟩
    have h1 := (N q hq).1
    rw [e, (N _ hI).1] at h1
    have h2 : oI = q.2 := Option.some.inj h1
    exact hn ⟨.inl (h2 ▸ st1), _, h2 ▸ st2⟩
  by_cases hlt : i < l.length
  · refine TL.item (s := ⟨h, g, d, tk, os⟩) i oI (by rw [hsz]; exact hlt) (N.isList hA) (N.get hI) ⟨st1, st2⟩ fun v h' tk' o' hv hkp ho st' => ?_
    obtain ⟨F', N', kp⟩ := swap hkp ho
    refine hown (i + 1) i o' v ?_
    obtain ⟨p, u, hpu⟩ : ∃ p u, l[i]? = some (p, u) := ⟨l[i].1, l[i].2, by rw [List.getElem?_eq_getElem hlt]⟩
    have hvs : v = .str p u := by
      have h1 : (strValues l).toArray[i]? = some v := hv
      rw [List.getElem?_toArray] at h1
      simp only [strValues, List.getElem?_map, hpu, Option.map_some, Option.some.injEq] at h1
      exact h1.symm
    subst hvs
    have hpi : partsN[i]? = some p.cps.toList := by rw [<- hl]; simp [hpu]
    have hdrop : partsN.drop i = p.cps.toList :: partsN.drop (i + 1) := by
      obtain ⟨h1, h2⟩ := List.getElem?_eq_some_iff.mp hpi
      rw [List.drop_eq_getElem_cons h1, h2]
    rw [hdrop] at hwo
    cases rest with
    | nil => exact hwo.elim
    | cons abc r =>
      obtain ⟨a, b, c⟩ := abc
      obtain ⟨hw1, hw2⟩ := hwo
      unfold chk3 at hchk
      split at hchk
      · cases hchk
      · rename_i hno
        have hmvl : mvN.length = 39 := by kernel_rfl
        have hpre64 : pre.length <= 64 := by
          have := congrArg List.length hmv
          rw [List.length_append, hmvl] at this
          omega
        have hplen : p.length <= 4096 := by
          have hall : ∀ q ∈ partsN, q.length <= 4096 := by
            have : partsN.all (fun q => Nat.ble q.length 4096) = true := by kernel_rfl
            exact fun q hq => Nat.le_of_ble_eq_true (List.all_eq_true.mp this q hq)
          have := hall _ (List.mem_of_getElem? hpi)
          simpa [Str.length] using this
        refine wpAny_mono (turn (Q := fun _ _ => True) (Qf := fun f s₃ => match f with
          | .next | .cont => ∃ m, m < l.length - i /\ InvM w h₀ L g d os news₀ I D ax l kk x1 m s₃
          | .brk => R (.ok .next) s₃
          | .ret v => R (.ok (.ret v)) s₃) F' N' hm (TupTab.keepIt TT kp) hno (hw1 p rfl) hplen hpre64 fun h₂ tk₂ m₂ led₂ F₂ N₂ k₂ hm₂ T₂ => ?_) (fun _ _ x => x) fun _ _ x => x
        refine ⟨l.length - (i + 1), by omega, i + 1, h₂, tk₂, m₂, led₂, o', pre ++ [(a, b, c)], r, rfl, rfl, hlt, F₂, N₂, fun q hq hqD => ⟨k₂ _ (updL_mem (hk q hq hqD).1 (hk q hq hqD).2) hqD, (hk q hq hqD).2⟩, hm₂, T₂, k₂ _ (updL_self hI) hID, st'.1, st'.2, k₂ _ (updL_mem hA hax) hAD, by rw [hmv]; simp, by simp [hpre], hchk, hw2⟩
  · have hin : i = l.length := by omega
    subst hin
    refine TL.done (s := ⟨h, g, d, tk, os⟩) oI (N.isList hA) (N.get hI) (by rw [hsz]; exact ⟨st1, st2⟩) fun h' tk' o' hkp ho => ?_
    obtain ⟨F', N', kp⟩ := swap hkp ho
    have hrest : rest = [] := by
      have h1 : partsN.drop l.length = [] := by rw [<- hpl]; simp
      rw [h1] at hwo
      cases rest with
      | nil => rfl
      | cons _ _ => exact hwo.elim
    subst hrest
    rw [List.append_nil] at hmv
    subst hmv
    exact wpAny_execs_nil (done F' N' (fun q hq hqD => updL_mem (hk q hq hqD).1 (hk q hq hqD).2) hm (TupTab.keepIt TT kp))
end
end Mine
end

section
open PySem PySem.W PySem.Calls PyProof.Rows
namespace Mine
noncomputable def S_ (i : Nat) : Str := match (sB (st 21))[i]? with
  | some (.Assign _ (.Constant (.str s) _ _) _) => s
  | some (.Assign _ (.BinOp _ _ (.Constant (.str s) _ _) _) _) => s
  | _ => ⟨#[]⟩
noncomputable def sX (k : Nat) : Str := ⟨⟨stepsN.take k⟩⟩
set_option tactic.hygienic false
theorem sX_app {a b : Nat} {s : Str} (h : s = ⟨⟨(stepsN.drop a).take b⟩⟩) : sX a ++ s = sX (a + b) := by
  rw [h]
  have e : (⟨stepsN.take a⟩ : Array Nat) ++ (⟨(stepsN.drop a).take b⟩ : Array Nat) = ⟨stepsN.take (a + b)⟩ := by
    rw [List.append_toArray, <- List.take_add]
  exact congrArg Str.mk e
theorem sX_len {k : Nat} : (sX k).length <= k := by
  show (stepsN.take k).length <= k
  exact List.length_take_le _ _
theorem sX_at {o : Option Value} {a b : Nat} {s : Str} {t : Tok} (h : s = ⟨⟨(stepsN.drop a).take b⟩⟩) (e : o = some (.str (sX a ++ s) t)) : o = some (.str (sX (a + b)) t) := by
  rw [e, sX_app h]
theorem sS_1 : S_ 1 = ⟨⟨(stepsN.drop 107).take 92⟩⟩ := by kernel_rfl
theorem sS_2 : S_ 2 = ⟨⟨(stepsN.drop 199).take 102⟩⟩ := by kernel_rfl
theorem sS_3 : S_ 3 = ⟨⟨(stepsN.drop 301).take 89⟩⟩ := by kernel_rfl
theorem sS_4 : S_ 4 = ⟨⟨(stepsN.drop 390).take 100⟩⟩ := by kernel_rfl
theorem sS_5 : S_ 5 = ⟨⟨(stepsN.drop 490).take 96⟩⟩ := by kernel_rfl
theorem sS_6 : S_ 6 = ⟨⟨(stepsN.drop 586).take 98⟩⟩ := by kernel_rfl
theorem sS_7 : S_ 7 = ⟨⟨(stepsN.drop 684).take 96⟩⟩ := by kernel_rfl
section
variable {w : World} {base : Heap} {fz : Led} {g : Array GenState} {d : Drawn} {os : OsState} {T : Tab} {pin : Led} {H : List Addr} {n : Nat}
theorem moves_sound {A : Around} {env top : PySem.Env} {outer : List PySem.Env} {h₀ : Heap} {L : Addr} {sc : List (Str × NameKind)} {h : Heap} {m : Str -> Option Value} {news : Led} {tk : Nat} {Q E : Value -> Shared -> Prop}
    (C : CxZ (Z0 w base fz g d os T pin H) A env top outer h₀ L sc (n + 2)) (F : Fr h₀ L h m) (N : News h₀ L h news)
    (hQ : ∀ D h' tk' led, Fr h₀ L h' m -> News h₀ L h' led -> (∀ p ∈ news, p ∈ led) -> (∀ p ∈ news, p.1 ≠ D) -> TupTab (PySem.strKind pw_sj0033_01 w) PyData.str led D (dctD mvN) -> Q (.ref D) ⟨h', g, d, tk', os⟩) :
    wpAny (model pw_sj0033_01 w) A (call (.ref 283) []) Q E ⟨h, g, d, tk, os⟩ := by
  refine wpAny_call (enter_raw (Z := Z0 w base fz g d os T pin H) (n := n + 1) (vs := []) (fo_283 _ w w.params) C F N (by kernel_rfl) fun {A' env' L' g₀ h₁ m' tk₁ Q' E'} C' ow F₁ N₁ lk ret => ?_)
  have hsm : sysModules < g₀.objs.size := let ⟨_, _, _, T⟩ := C'.T; modules_low T.nolimit
  have hs : isLoc (fx (st 21)).sc (Str.ofString "steps").cps.toList = true := by kernel_rfl
  refine wpAny_execs_cons (Assign_any (by rfl) (by rfl) (by rfl) (Calls.Constant_str (assign_raw C' ow hs F₁ N₁ fun h₂ tk₂ F₂ N₂ => ?_)))
  refine wpAny_execs_cons (steps_more (y := sX 107) C' ow hs F₂ N₂ ((if_pos rfl).trans (congrArg some (congrArg (fun x => Value.str x tk₁) (by kernel_rfl)))) (Nat.le_trans (Nat.add_le_add sX_len (Nat.le_of_ble_eq_true (by kernel_rfl) : _ <= 200)) (by decide)) fun h11 tk11 m11 t11 F11 hm11 N11 => ?_)
  refine wpAny_execs_cons (steps_more (y := sX 199) C' ow hs F11 N11 (sX_at sS_1 hm11) (Nat.le_trans (Nat.add_le_add sX_len (Nat.le_of_ble_eq_true (by kernel_rfl) : _ <= 200)) (by decide)) fun h12 tk12 m12 t12 F12 hm12 N12 => ?_)
  refine wpAny_execs_cons (steps_more (y := sX 301) C' ow hs F12 N12 (sX_at sS_2 hm12) (Nat.le_trans (Nat.add_le_add sX_len (Nat.le_of_ble_eq_true (by kernel_rfl) : _ <= 200)) (by decide)) fun h13 tk13 m13 t13 F13 hm13 N13 => ?_)
  refine wpAny_execs_cons (steps_more (y := sX 390) C' ow hs F13 N13 (sX_at sS_3 hm13) (Nat.le_trans (Nat.add_le_add sX_len (Nat.le_of_ble_eq_true (by kernel_rfl) : _ <= 200)) (by decide)) fun h14 tk14 m14 t14 F14 hm14 N14 => ?_)
  refine wpAny_execs_cons (steps_more (y := sX 490) C' ow hs F14 N14 (sX_at sS_4 hm14) (Nat.le_trans (Nat.add_le_add sX_len (Nat.le_of_ble_eq_true (by kernel_rfl) : _ <= 200)) (by decide)) fun h15 tk15 m15 t15 F15 hm15 N15 => ?_)
  refine wpAny_execs_cons (steps_more (y := sX 586) C' ow hs F15 N15 (sX_at sS_5 hm15) (Nat.le_trans (Nat.add_le_add sX_len (Nat.le_of_ble_eq_true (by kernel_rfl) : _ <= 200)) (by decide)) fun h16 tk16 m16 t16 F16 hm16 N16 => ?_)
  refine wpAny_execs_cons (steps_more (y := sX 684) C' ow hs F16 N16 (sX_at sS_6 hm16) (Nat.le_trans (Nat.add_le_add sX_len (Nat.le_of_ble_eq_true (by kernel_rfl) : _ <= 200)) (by decide)) fun h17 tk17 m17 t17 F17 hm17 N17 => ?_)
  have hm : m17 (Str.ofString "steps") = some (.str stepsX t17) := sX_at (a := 684) (b := 96) sS_7 hm17
  have hmv : isLoc (fx (st 21)).sc (Str.ofString "moves").cps.toList = true := by kernel_rfl
  have hst : isLoc (fx (st 21)).sc (Str.ofString "step").cps.toList = true := by kernel_rfl
  have hwd : isLoc (fx (st 21)).sc (Str.ofString "words").cps.toList = true := by kernel_rfl
  refine wpAny_execs_cons (Assign_any (by rfl) (by rfl) (by rfl) (Dict_empty_made2 (s := ⟨h17, g, d, tk17, os⟩) F17 N17 hsm fun h3 oD F3 N3 hnm hdO hfl hdI hfI hfrD => assign_raw C' ow hmv F3 N3 fun h4 tk4 F4 N4 => ?_))
  have TT : TupTab (PySem.strKind pw_sj0033_01 w) PyData.str ((h17.objs.size, oD) :: news) h17.objs.size [] := TupTab.ofEmpty (.head _) hnm hdO
  refine wpAny_execs_cons (wpAny_For (call_method (by rfl) (by rfl) (by decide) (by rfl) fun pl => ?_) (fun x => by rfl))
  refine name_raw (Z := Z0 w base fz g d os T pin H) C' ow F4 ⟨by simpa [show (Str.ofString "steps" = Str.ofString "moves") = False from by decide] using hm, C'.env_.locOk hs⟩ ?_
  refine PySem.GM.split ?_
  refine callWith_method1 (spliced_more (Calls.Constant_str (spliced_none ?_)) (by rfl))
  refine KSpl.split1 (s := ⟨h4, g, d, tk4 + 1, os⟩) (x := stepsX) (y := Str.ofString ", ") F4 N4 (by kernel_rfl) (fun ax l h5 tk5 e5 _ F5 N5 lt5 => ?_) (Nat.le_trans (Nat.le_of_ble_eq_true (by kernel_rfl) : stepsX.length + 2 <= 4096) line_le)
  have hl : (l.map (·.1)).map (fun s => s.cps.toList) = partsN := by
    rw [e5]
    exact steps_split
  refine wpAny_pyIter_list (s := ⟨h5, g, d, tk5, os⟩) (N5.isList (.head _)) ?_
  have N6 := N5.push F5 { cls := .type "list_iterator", data := .fields #[.ref ax, .int 0 0] } rfl
  have F6 := F5.push { cls := .type "list_iterator", data := .fields #[.ref ax, .int 0 0] }
  have ltI : ∀ p ∈ (ax, listOf (strValues l).toArray 0) :: (h17.objs.size, oD) :: news, p.1 < h5.objs.size := fun p hp => Heap.lt_size (N5 p hp).1
  have ltA : ∀ p ∈ (h17.objs.size, oD) :: news, p.1 < ax := lt5
  have hmD : (fun y => if y = Str.ofString "moves" then some (Value.ref h17.objs.size) else m17 y) (Str.ofString "moves") = some (.ref h17.objs.size) := if_pos rfl
  refine moves_loop (x1 := Str.ofString "moves") (x2 := Str.ofString "moves") (x3 := Str.ofString "moves") (D := h17.objs.size) (ax := ax) (l := l) (kk := 0) (news₀ := news) C' ow hl (Nat.ne_of_lt (ltI _ (.head _))) (fun {h tk m led pre a b c p u Q Qf E} F N hmx TT hno hsp hpl hp64 q => ?_) (fun {h tk m led} F N hk hmx TT => ?_) (fun i j o v {s Q E} hq => wpAny_of_eq (a := ()) (by rfl) hq) F6 N6 (fun p hp hD => ⟨.tail _ (.tail _ (.tail _ hp)), Nat.ne_of_lt (ltI p (.tail _ (.tail _ hp)))⟩) hmD (Mine.TupTab.mono TT fun p hp => .tail _ (.tail _ hp)) (.head _) (.tail _ (.head _)) (fun e => Nat.lt_irrefl _ (e ▸ ltI _ (.tail _ (.head _)))) (fun e => Nat.lt_irrefl _ (e ▸ ltA _ (.head _)))
  · refine assign_raw C' ow hst F N fun h₂ tk₂ F₂ N₂ => ?_
    have hm₂ : (fun y => if y = Str.ofString "step" then some (Value.str p u) else m y) (Str.ofString "moves") = some (.ref h17.objs.size) := (if_neg (by decide)).trans hmx
    refine wpAny_execs_cons (Assign_any (by rfl) (by rfl) (by rfl) (call_method (by rfl) (by rfl) (by decide) (by rfl) fun pl => ?_))
    refine name_raw (Z := Z0 w base fz g d os T pin H) C' ow F₂ ⟨if_pos rfl, C'.env_.locOk hst⟩ ?_
    refine PySem.GM.split ?_
    refine callWith_method1 (spliced_more (Calls.Constant_str (spliced_none ?_)) (by rfl))
    refine KSpl.split1 (s := ⟨h₂, g, d, tk₂ + 1, os⟩) (x := p) (y := Str.ofString " ") F₂ N₂ (by kernel_rfl) (fun aw l' h₃ tk₃ e₃ _ F₃ N₃ lt₃ => ?_) (Nat.le_trans (by omega : p.length + 2 <= 5000) (by rw [sizeLine_eq]; decide))
    have hw3 : (l'.map (·.1)).map (fun s => s.cps.toList) = [a, b, c] := by rw [e₃]; exact hsp
    obtain ⟨x, y, z, t1, t2, t3, rfl, hx, hy, hz⟩ := strs3 hw3
    refine assign_raw C' ow hwd F₃ N₃ fun h₄ tk₄ F₄ N₄ => ?_
    have hmw : ∀ {mm : Str -> Option Value}, (fun y => if y = Str.ofString "words" then some (Value.ref aw) else mm y) (Str.ofString "words") = some (.ref aw) := if_pos rfl
    have hm₄ : (fun y => if y = Str.ofString "words" then some (Value.ref aw) else (fun y => if y = Str.ofString "step" then some (Value.str p u) else m y) y) (Str.ofString "moves") = some (.ref h17.objs.size) := (if_neg (by decide)).trans hm₂
    refine wpAny_execs_cons (Assign_any (by rfl) (by rfl) (by rfl) (item_raw (j := 2) (u := .str z t3) C' ow hwd F₄ N₄ hmw (.head _) rfl (by decide) fun tk₅ => ?_))
    rw [arm_assign_Subscript]
    refine wpAny_bind (wpAny_holding (name_raw (Z := Z0 w base fz g d os T pin H) C' ow F₄ ⟨hm₄, C'.env_.locOk hmv⟩ ?_))
    refine wpAny_bind (wpAny_holding (Tuple_ (spliced_more (item_raw (j := 0) (u := .str x t1) C' ow hwd F₄ N₄ hmw (.head _) rfl (by decide) fun tk₆ => spliced_more (item_raw (j := 1) (u := .str y t2) C' ow hwd F₄ N₄ hmw (.head _) rfl (by decide) fun tk₇ => spliced_none ?_) (by rfl)) (by rfl))))
    refine newTuple_N (s := ⟨h₄, g, d, tk₇, os⟩) F₄ N₄ (fun h₅ F₅ N₅ => ?_) (by rw [sizeLine_eq]; exact (by decide : 2 <= 16777216))
    refine wpAny_bind (wpAny_standAt (wpAny_bind (wpAny_holding ?_)))
    have T₅ : TupTab (PySem.strKind pw_sj0033_01 w) PyData.str _ h17.objs.size (dctD pre) := Mine.TupTab.mono TT fun q hq => .tail (h₄.objs.size, { cls := .type "tuple", data := .seq [Value.str x t1, Value.str y t2].toArray }) (.tail (aw, listOf (strValues [(x, t1), (y, t2), (z, t3)]).toArray 0) hq)
    refine setItem_tupTab (s := ⟨h₅, g, d, tk₇, os⟩) (ks := [x, y]) (dv := .str z) PyProof.V.same_str (by have := C'.un; omega) (PyProof.V.Flat.str _ _) F₅ N₅ T₅ (.head _) (TupKeyObj.made (.cons (strKind_is _ _ _ _) (.cons (strKind_is _ _ _ _) .nil))) (fun h₆ led₆ F₆ N₆ T₆ _ k₆ => ?_) (by simp only [dctD, List.length_map]; exact Nat.le_trans hp64 (by rw [sizeLine_eq]; decide))
    refine wpAny_release' (wpAny_execs_nil (q h₆ _ _ led₆ F₆ N₆ (fun r hr hD => k₆ r (.tail _ (.tail _ hr)) hD) hm₄ ?_))
    have e1 : PyData.str z = .str ⟨⟨c⟩⟩ := by rw [<- hz]
    rw [e1, putD_none (by rw [hx, hy]; exact hno), hx, hy] at T₆
    exact T₆
  · refine wpAny_execs_cons (wpAny_Return_some (name_raw (Z := Z0 w base fz g d os T pin H) C' ow F ⟨hmx, C'.env_.locOk hmv⟩ ?_))
    exact ret (.inl rfl) F N fun F5 N5 => hQ _ _ _ led F5 N5 (fun p hp => hk p hp (hfrD p hp)) hfrD TT
end
end Mine
end

section
open PySem PySem.W PySem.Calls PyProof.Rows
namespace Mine
set_option tactic.hygienic false
theorem ints_take {vs : List Value} {is : List Int} (h : IntsAre vs is) : ∀ k : Nat, IntsAre (vs.take k) (is.take k) := by
  induction h with
  | nil => intro k; simp; exact .nil
  | cons n t _ ih =>
    intro k
    cases k with
    | zero => simp; exact .nil
    | succ k => simpa using .cons n t (ih k)
theorem ints_snoc {vs : List Value} {is : List Int} (h : IntsAre vs is) (n : Int) (t : Tok) : IntsAre (vs ++ [.int n t]) (is ++ [n]) := by
  induction h with
  | nil => exact .cons n t .nil
  | cons m u _ ih => exact .cons m u ih
theorem ints_at {vs : List Value} {is : List Int} (h : IntsAre vs is) : ∀ {i : Nat} {v : Value}, vs[i]? = some v -> ∃ n t, v = .int n t := by
  induction h with
  | nil => intro i v e; simp at e
  | cons m u _ ih =>
    intro i v e
    cases i with
    | zero => simp at e; exact ⟨m, u, e.symm⟩
    | succ i => exact ih (by simpa using e)
section
variable {Z : Wd} {n : Nat}
theorem enter_raw2 {A : Around} {env top : PySem.Env} {outer : List PySem.Env} {h₀ : Heap} {L : Addr} {sc : List (Str × NameKind)} {fn : Fn} {fa : Addr} {vs : List Value} {h : Heap} {m : Str -> Option Value} {news : Led} {tk : Nat} {R : Result -> Shared -> Prop}
    (FO : FnOk Z.prog Z.w Z.CA Z.K fn fa) (C : CxZ Z A env top outer h₀ L sc (n + 1)) (F : Fr h₀ L h m) (N : News h₀ L h news) (hl : vs.length = fn.params.length)
    (body : ∀ {A' : Around} {env' : PySem.Env} {L' : Addr} {g₀ h₁ : Heap} {m' : Str -> Option Value} {tk₁ : Nat} {Q' : PySem.Flow -> Shared -> Prop} {E' : Value -> Shared -> Prop},
      (∀ b o, h₀.get? b = some o -> g₀.get? b = some o) -> CxZ Z A' env' env' (top :: outer) g₀ L' fn.sc n -> Own env' env' L' -> Fr g₀ L' h₁ m' -> News g₀ L' h₁ news -> (∀ (x : Str) (v : Value), lookV fn.params vs x.cps.toList = some v -> m' x = some v /\ env'.kindOf x = some .local /\ (x == ("__debug__" : Str)) = false) ->
      (∀ {v : Value} {fl : PySem.Flow} {h' : Heap} {tk' : Nat} {m₂ : Str -> Option Value} {news' : Led}, (fl = .ret v \/ (fl = .next /\ v = .none)) -> Fr g₀ L' h' m₂ -> News g₀ L' h' news' -> (Fr h₀ L h' m -> News h₀ L h' news' -> R (.ok (.ret v)) ⟨h', Z.g, Z.d, tk', Z.os⟩) -> Q' fl ⟨h', Z.g, Z.d, tk', Z.os⟩) ->
      wpAny (model Z.prog Z.w) A' (execs fn.body env') Q' E' ⟨h₁, Z.g, Z.d, tk₁, Z.os⟩) :
    codeAny (model Z.prog Z.w) A (.call (.ref fa) ⟨vs, []⟩) R ⟨h, Z.g, Z.d, tk, Z.os⟩ := by
  obtain ⟨A₀, B⟩ := C.below
  obtain ⟨mean, mg, mb, T⟩ := C.T
  obtain ⟨name, qual, params, scope, dV, kV, doc, pm, an, cdv, ct, oc, od, osl, pn, h1, h2, h3, h4, h5, h6, h7, h8, h9, h10, h11, h12⟩ := FO
  have hpl : vs.length = pn.length := by rw [hl, <- h8]; simp
  have hbind := h11 ⟨h, Z.g, Z.d, tk, Z.os⟩ vs (C.X.keeps F.keep) hpl
  have hzip : ((pn.zip vs).map (·.1)) = pn := by
    rw [List.map_fst_zip]
    rw [hpl]; exact Nat.le_refl _
  refine code_def (s := ⟨h, Z.g, Z.d, tk, Z.os⟩) B F C.X N T C.fr C.tf C.tk h1 h2 (by have := C.dep; omega) hbind (fun y hy => ?_) (fun g' L' h₁ FG F' N' B' X' T' => ?_) h4 h5 h6 h7
  · have : y.1 ∈ pn := by rw [<- hzip]; exact List.mem_map.mpr ⟨y, hy, rfl⟩
    exact (isLoc_iff (h9 _ this)).1
  · have C1 : CxZ Z (A.deeper (envOf qual scope L' fa cdv)) (envOf qual scope L' fa cdv) (envOf qual scope L' fa cdv) (top :: outer) g' L' fn.sc n :=
      ⟨envX_good (cl := []) h6 h3, rfl, h6, ⟨A, B'⟩, Around.frames_deeper C.fr, X', ⟨mean, mg, mb, T'⟩, C.hd, by have := C.dep; show A.depth + 1 + n < _; omega, by have := C.un; show A.units + 3 + 4 * n + 100 < _; omega,
        fun p hp => ⟨(C.fz p hp).1, let ⟨sl, q⟩ := (C.fz p hp).2; ⟨sl, FG.keep _ _ q⟩⟩⟩
    refine body FG.keep C1 ⟨rfl, rfl⟩ F' N' (fun x v e => ?_) (fun {v fl h' tk' m₂ news'} hv F₂ N₂ k => ?_)
    · rw [<- h8] at e
      obtain ⟨q1, y, hy, rfl⟩ := zip_lookV x v e
      have hl := C1.env_.locOk (x := y) (by rw [<- h3]; exact h9 y hy)
      exact ⟨by rw [lookup_rev (by rw [hzip]; exact h10)]; exact q1, hl.1, hl.2⟩
    · have fin : LeaveK h₀ L m g' R v ⟨h', Z.g, Z.d, tk', Z.os⟩ := leaveK_ (s' := ⟨h', Z.g, Z.d, tk', Z.os⟩) F₂ N₂ fun F2 N2 => k F2 N2
      rcases hv with rfl | ⟨rfl, rfl⟩ <;> exact fin
end
theorem off1_ne {D : Addr} : ∀ {l : List (Addr × Obj)}, LCg.Off1 D l -> ∀ p ∈ l, p.1 ≠ D
  | [], _, p, h => nomatch h
  | q :: r, x, p, h => by
    rcases List.mem_cons.mp h with rfl | h
    · exact x.1
    · exact off1_ne x.2 p h
theorem no_free {l : List (Str × NameKind)} (h : (l.all fun x => match x.2 with | .free => false | _ => true) = true) : ∀ x ∈ l, x.2 ≠ .free := fun x hx e => by
  have := List.all_eq_true.mp h x hx
  simp only [e] at this
  cases this
section
variable {w : World} {base : Heap} {fz : Led} {g : Array GenState} {d : Drawn} {os : OsState} {T : Tab} {pin : Led} {H : List Addr} {n : Nat}
theorem bi_raw {A : Around} {env env₀ top : PySem.Env} {outer : List PySem.Env} {h₀ : Heap} {L : Addr} {sc sc' : List (Str × NameKind)} {h : Heap} {m : Str -> Option Value} {tk : Nat} {x : Str} {np : Pos} {fv : Value} {Q E : Value -> Shared -> Prop}
    (C : CxZ (Z0 w base fz g d os T pin H) A env₀ top outer h₀ L sc n) (eg : EnvG env L sc') (F : Fr h₀ L h m) (hg : isGlb sc' x.cps.toList = true) (e : nsIn (K0 w.params) mainGlobals x = some none) (hb : bootBuiltins x = some fv) (hn : x ≠ "__name__") (hq : Q fv ⟨h, g, d, tk, os⟩) :
    wpAny (model pw_sj0033_01 w) A (eval (.Name x np) env) Q E ⟨h, g, d, tk, os⟩ := by
  obtain ⟨mean, mg, mb, T⟩ := C.T
  obtain ⟨g1, g2⟩ := eg.glOk hg
  have T' := topRead_of T
  exact Name_function_global eg.kind g1 (loadGlobal_builtin (s := ⟨h, g, d, tk, os⟩) (by rw [eg.glob]; exact T'.g.keeps F.keep) (mg_none_of C.X T'.g e) (by rw [eg.blt]; exact T'.b.keeps F.keep) ((T'.builtins x hn).trans hb) hq) g2
theorem cells_rest {A : Around} {env : PySem.Env} {h₀ : Heap} {L : Addr} {m : Str -> Option Value} {elt : PySem.Expr} {x : Str} {scope : Scope} {s : Shared} {S : List (Addr × Obj) -> Prop} {vs : List Value} {is : List Int} {Fin : List Value -> List (Addr × Obj) -> Prop} {news : List (Addr × Obj)}
    (hia : IntsAre vs is) (hS : S news)
    (elt_ok : ∀ {h : Heap} {tk : Nat} {C : Addr} {mC : Str -> Option Value} {i : Int} {t : Tok} {Q E : Value -> Shared -> Prop}, h.Ns C mC -> mC x = some (.int i t) -> Fr h₀ L h m -> (∀ j u tk', Q (.int j u) { s with heap := h, toks := tk' }) ->
      wpAny (model pw_sj0033_01 w) A (eval elt (compEnvC scope [] C env)) Q E { s with heap := h, toks := tk })
    (fin : ∀ ys js, IntsAre ys js -> ys.length = vs.length -> Fin ys news) :
    ∀ (k i : Nat) (ys : List Value) (js : List Int), i + k = vs.length -> ys.length = i -> IntsAre ys js ->
      LCg.CompRest pw_sj0033_01 w A h₀ L m env elt x scope [] s S (fun i v => vs.toArray[i]? = some v) Fin k i ys news
  | 0, i, ys, js, hk, hl, hy => LCg.CompRest.zero (fin ys js hy (by omega))
  | k + 1, i, ys, js, hk, hl, hy => LCg.CompRest.succ fun v I oI C oC D m₂ h tk E' hv hC hx F N off ne => by
    have hv' : vs[i]? = some v := by simpa using hv
    obtain ⟨a, t, rfl⟩ := ints_at hia hv'
    refine elt_ok (hC.ns (N.get (.tail _ (.head _)))) hx F fun j u tk' => ?_
    exact LCg.CompEnd.intro F N news (fun p hp => hp) off hS (cells_rest hia hS elt_ok fin k (i + 1) (ys ++ [.int j u]) (js ++ [j]) (by omega) (by simp [hl]) (ints_snoc hy j u))
theorem feed_sound {A : Around} {env top : PySem.Env} {outer : List PySem.Env} {h₀ : Heap} {L : Addr} {sc : List (Str × NameKind)} {h : Heap} {m : Str -> Option Value} {news : Led} {tk : Nat} {a : Addr} {vs : List Value} {is : List Int} {Q E : Value -> Shared -> Prop}
    (C : CxZ (Z0 w base fz g d os T pin H) A env top outer h₀ L sc (n + 2)) (F : Fr h₀ L h m) (N : News h₀ L h news) (hls : h₀.IsList a vs.toArray) (hia : IntsAre vs is) (hvl : vs.length <= 4096)
    (hQ : ∀ fa ca t0 y t1 k us js h' tk' led, Fr h₀ L h' m -> News h₀ L h' ((fa, listOf #[.ref ca, .int 0 t0, .int y t1] 0) :: (ca, listOf (List.toArray us) k) :: led) -> (∀ p ∈ news, p ∈ led) -> (∀ p ∈ led, p.1 ≠ ca) -> (∀ p ∈ (ca, listOf (List.toArray us) k) :: led, p.1 < fa) -> IntsAre us js -> 0 <= y -> y < 2147483647 -> us.length <= 64 -> Q (.ref fa) ⟨h', g, d, tk', os⟩) :
    wpAny (model pw_sj0033_01 w) A (call (.ref 236) [.ref a]) Q E ⟨h, g, d, tk, os⟩ := by
  refine wpAny_call (enter_raw2 (Z := Z0 w base fz g d os T pin H) (n := n + 1) (vs := [.ref a]) (fo_236 _ w w.params) C F N (by kernel_rfl) fun {A' env' L' g₀ h₁ m' tk₁ Q' E'} hg₀ C' ow F₁ N₁ lk ret => ?_)
  have hlg : g₀.IsList a vs.toArray := let ⟨o, e, r⟩ := hls; ⟨o, hg₀ _ _ e, r⟩
  have hsc := lk (Str.ofString "script") (.ref a) (by kernel_rfl)
  have hcl : isLoc (fx (st 14)).sc (Str.ofString "cells").cps.toList = true := by kernel_rfl
  have hab : Str.ofString "abs" ≠ "__name__" := by decide +kernel
  refine wpAny_execs_cons (LCg.Assign_ListComp_U (h₀ := g₀) (L := L') (s := ⟨h₁, g, d, tk₁, os⟩) (cl := []) (y := Str.ofString "cells") F₁ ow.2 ?_ (closureFor_none (no_free (by kernel_rfl))) (no_cell (by kernel_rfl)) (by rfl) (fun z hz hl => by rw [once_lookup (by kernel_rfl) z hz, hl]) (by rfl) (C'.env_.locOk hcl).1 (by rw [C'.env_.kind]; rfl) ?_ (fun x => by rfl))
  · unfold swapsWith
    have h1 := C'.env_.kind
    have h2 := (C'.env_.locOk hcl).1
    simp [Env.blockKind, h1, h2, ScopeKind.isAnnotationScope]
    rfl
  · refine Subscript_ (name_raw (Z := Z0 w base fz g d os T pin H) C' ow F₁ hsc ?_)
    refine wpAny_Slice (wpAny_of_eq (evalPart_none env') ?_)
    change wpAny _ _ (eval (PySem.Expr.Constant (Const.int 40) 0 ⟨157, 48, 157, 50⟩) env') _ _ _
    refine wpAny_Constant_int ?_
    refine wpAny_of_eq (evalPart_none env') ?_
    refine slice_list (s := ⟨h₁, g, d, tk₁ + 1, os⟩) F₁ N₁ (let ⟨o, e, r⟩ := hlg; ⟨o, F₁.keep _ _ e, r⟩) .none (.int _ _) (fun h₂ F₂ N₂ => ?_) (by rfl) (fun _ => by rfl) (by simp only [List.size_toArray]; exact Nat.le_trans hvl line_le)
    have hpick : slicePick vs.toArray none (some (40 : Nat)) none = (vs.take 40).toArray := by
      have := slicePick_upto' vs.toArray 40
      simpa using this
    have hpick' : slicePick vs.toArray none (some 40) none = (vs.take 40).toArray := hpick
    rw [hpick'] at N₂
    refine LCg.CompSrc.ledger (s₁ := ⟨h₂, g, d, tk₁ + 1, os⟩) (k := 0) C'.hd F₂ N₂ (.head _) (by simp only [List.size_toArray, List.length_take]; exact Nat.le_trans (by omega : min 40 vs.length <= 4096) line_le) fun gh => ?_
    have hsz : (vs.take 40).toArray.size = (vs.take 40).length := by simp
    rw [hsz]
    refine cells_rest (ints_take hia 40) (.inr ⟨_, .head _, rfl, _, rfl⟩) (fun {h tk C mC i t Q E} hns hx F hq => ?_) (fun ys js hy hyl => ?_) _ 0 [] [] (by simp) rfl .nil
    · have eg := compEnv_good C'.env_ (scope := ⟨.function, [(Str.ofString ".0", .local), (Str.ofString "cell", .local), (Str.ofString "abs", .globalImplicit), (Str.ofString "int", .globalImplicit)], false, false, []⟩) (by rfl) [] C
      have hcell := eg.locOk (x := Str.ofString "cell") (by kernel_rfl)
      refine Call_ (bi_raw C' eg F (by kernel_rfl) (by kernel_rfl) (fv := .builtin "abs") (by decide +kernel) (by decide +kernel) ?_) (by rfl)
      refine callWith_method1 (spliced_more (Call_ (bi_raw C' eg F (by kernel_rfl) (by kernel_rfl) (fv := .type "int") (by decide +kernel) (by decide +kernel) (Pv.callWith_type1 (spliced_more (wpAny_Name (wpAny_loadName_local eg.kind hcell.1 hns hx (spliced_none ?_)) hcell.2) (by rfl)))) (by rfl)) (by rfl))
      exact call_int_int (spliced_none (call_abs_int fun u tk' => hq _ _ _))
    · intro ca h₃ tk₃ F₃ N₃ off₃
      have hcells := (show (fun z => if z = Str.ofString "cells" then some (Value.ref ca) else m' z) (Str.ofString "cells") = some (.ref ca) from if_pos rfl)
      have hlist : h₃.IsList ca ys.toArray := ⟨_, N₃.get (.head _), rfl, _, rfl⟩
      obtain ⟨xs, hxs⟩ := hy.allInts.items
      refine wpAny_execs_cons (wpAny_Return_some (List_ (spliced_more (name_raw (Z := Z0 w base fz g d os T pin H) C' ow F₃ ⟨hcells, C'.env_.locOk hcl⟩ (spliced_more (wpAny_Constant_int (spliced_more (wpAny_BinOp (wpAny_Constant_int (wpAny_BinOp ?_))) (by rfl))) (by rfl))) (by rfl))))
      refine Call_ (bi_raw C' C'.env_ F₃ (by kernel_rfl) (by kernel_rfl) (fv := .type "int") (by decide +kernel) (by decide +kernel) (Pv.callWith_type1 (spliced_more (Call_ (bi_raw C' C'.env_ F₃ (by kernel_rfl) (by kernel_rfl) (fv := .builtin "sum") (by decide +kernel) (by decide +kernel) (callWith_method1 (spliced_more (name_raw (Z := Z0 w base fz g d os T pin H) C' ow F₃ ⟨hcells, C'.env_.locOk hcl⟩ (spliced_none ?_)) (by rfl)))) (by rfl)) (by rfl)))) (by rfl)
      refine sum_intListG (xs := xs) C'.hd (by rw [<- hxs]; exact hlist) fun h₄ tk₄ t₄ k₄ => spliced_none ?_
      have F₄ := F₃.keeps k₄
      have N₄ := N₃.grown k₄
      refine call_int_int (wpAny_Constant_int (mod_int' (by decide) (add_int (spliced_none ?_))))
      refine newList_K (s := ⟨h₄, g, d, _, os⟩) F₄ N₄ (fun fa h₅ F₅ N₅ lt₅ => ?_) (by rw [sizeLine_eq]; exact (by decide : 3 <= 16777216))
      have hp : (0 : Int) < 1000003 := by decide
      have y0 := Int.fmod_nonneg_of_pos (preSum (numAt xs) xs.size) hp
      have y1 := Int.fmod_lt_of_pos (preSum (numAt xs) xs.size) hp
      refine ret (.inl rfl) F₅ N₅ fun F₆ N₆ => hQ fa ca _ _ _ _ ys js _ _ _ F₆ N₆ (fun p hp => .tail _ hp) (fun p hp e => ?_) lt₅ hy (by omega) (by omega) ?_
      · exact off1_ne off₃ p hp e
      · rw [hyl, List.length_take]; omega
end
end Mine
end

section
open PySem PySem.W PySem.Calls PyProof.Rows
namespace Mine
noncomputable def tPlaced (xs : List V) (Q : V -> Prop) : Prop := match xs with
  | [.vls l] => evSs T0 250 (fx (st 20)).body ⟨(fx (st 20)).nm, (fx (st 20)).sc, (fx (st 20)).params, [.vls l]⟩ [] (fun fl _ σ => match fl with
    | .ret v => match σ with
      | [] => Q v
      | _ :: _ => False
    | _ => False) (fun _ _ => False)
  | _ => False
section
variable {w : World} {base : Heap} {fz : Led} {g : Array GenState} {d : Drawn} {os : OsState}
set_option tactic.hygienic false
theorem k276 (P : Params) : (K0 P).lookup 276 = some ⟨.type "function", none, .func (PySem.W.fnOf (Str.ofString "_law_placed") (Str.ofString "_law_placed") (sP (st 20)) (fx (st 20)).body (sS (st 20)) .none .none .none (.str (Str.ofString "law_sj0033_01") 487) none (.ref 275) .none), #[]⟩ := by kernel_rfl
set_option tactic.hygienic true
theorem placed_ok : OrcOk w base fz g d os [95, 108, 97, 119, 95, 112, 108, 97, 99, 101, 100] tPlaced := by
  refine ⟨276, by kernel_rfl, by kernel_rfl, fun pin H {A env top outer h₀ L sc n vs xs h m news φ tk P Q E} C S rv ht hK => ?_⟩
  unfold tPlaced at ht
  split at ht
  · rename_i l
    obtain ⟨u, rfl, ru⟩ := rv.one_e
    · skip
      have hφ : φ = [] := List.length_eq_zero_iff.mp (by rw [S.φl]; rfl)
      subst hφ
      obtain ⟨A₀, B⟩ := C.below
      obtain ⟨mean, mg, mb, TT⟩ := C.T
      refine wpAny_call (code_defC (s := ⟨h, g, d, tk, os⟩) (binds := [(Str.ofString "row", u)]) B S.F C.X S.N TT C.fr C.tf C.tk (k276 w.params) (by kernel_rfl) (by have := C.dep; omega) (BindsTo.of_eq (by kernel_rfl)) (by kernel_rfl) (by decide +kernel) (fun g' L' h₁ tk₁ cells FG F' N' Y B' X' T' lt => ?_) (by kernel_rfl) (by kernel_rfl) (by kernel_rfl))
      have hcf : cellsFrom (L' + 1) (sS (st 20)).names [] = [(Str.ofString "row", L' + 1)] := by rfl
      rw [hcf] at Y
      obtain ⟨oc, rfl, hoc⟩ := Y.one
      have hoc' : oc.data = .cell (some u) := hoc
      have eg : EnvG (envOfC (Str.ofString "_law_placed") (sS (st 20)) L' 276 (.ref 275)) L' (fx (st 20)).sc := envX_good (cl := cellsFrom (L' + 1) (sS (st 20)).names []) (by kernel_rfl) (by kernel_rfl)
      have C1 : CxZ (Z0 w base fz g d os T0 pin H) (A.deeper (envOfC (Str.ofString "_law_placed") (sS (st 20)) L' 276 (.ref 275))) (envOfC (Str.ofString "_law_placed") (sS (st 20)) L' 276 (.ref 275)) (envOfC (Str.ofString "_law_placed") (sS (st 20)) L' 276 (.ref 275)) (top :: outer) g' L' (fx (st 20)).sc 250 :=
        ⟨eg, rfl, by kernel_rfl, ⟨A, B'⟩, Around.frames_deeper C.fr, X', ⟨mean, mg, mb, T'⟩, C.hd, by have := C.dep; show A.depth + 1 + 250 < _; omega, by have := C.un; show A.units + 3 + 4 * 250 + 100 < _; omega,
          fun p hp => ⟨(C.fz p hp).1, let ⟨sl, q⟩ := (C.fz p hp).2; ⟨sl, FG.keep _ _ q⟩⟩⟩
      have Nt : News g' L' h₁ news := fun p hp => N' p (.tail _ hp)
      have S1 := S.turn F' Nt
      have lt' : ∀ p ∈ news, p.1 < L' + 1 := fun p hp => Nat.lt_succ_of_lt (lt p hp)
      obtain ⟨S2, E2⟩ := S1.push lt' F' N'
      have hoff := off_new S1 lt'
      refine (sound0 250 pin H).ss _ _ [] _ (fun _ _ => False) ⟨rfl, rfl⟩ C1 S2 ⟨fun x v e => ?_, rfl⟩ ht (fun fl ρ' σ' p f h₂ tk₂ m₂ news₂ φ₂ rf S₃ E₃ O₃ _ => ?_) (fun _ _ x => x.elim) PassesOwn.leaving
      · have hp : (fx (st 20)).params = [(Str.ofString "row").cps.toList] := by kernel_rfl
        rw [hp] at e
        simp only [look] at e
        split at e
        · rename_i q
          have hx : Str.ofString "row" = x := str_ext (leq_iff.mp q)
          subst hx
          cases e
          exact ⟨by decide +kernel, .cel (.inl (by kernel_rfl)) (by decide +kernel) (by rfl) (.head _) hoff hoc' (ru.mono E2)⟩
        · cases e
      · cases rf with
        | ret rr =>
          simp only at p
          split at p
          · have hφ₂ : φ₂ = [] := List.length_eq_zero_iff.mp (by rw [S₃.φl]; rfl)
            subst hφ₂
            exact leaveK_ (s' := ⟨h₂, g, d, tk₂, os⟩) S₃.F S₃.N fun F5 N5 => hK _ _ p _ _ _ _ _ (S₃.turn F5 N5) (E2.trans E₃) rr
          · exact p.elim
        | next => exact p.elim
        | brk => exact p.elim
        | cont => exact p.elim
  · exact ht.elim
end
end Mine
end

section
open PySem PySem.W PySem.Calls PyProof.Rows
namespace Mine
set_option tactic.hygienic false
theorem funFrames_base {h base base' : Heap} : ∀ {l : List PySem.Env}, h.FunFrames base l -> (∀ env ∈ l, ∀ a, env.frame = some a -> base'.get? a = none) -> h.FunFrames base' l
  | [], _, _ => trivial
  | env :: _, ⟨hk, ⟨L, o, hf, _, ho, hd⟩, hr⟩, hin => ⟨hk, ⟨L, o, hf, hin env (.head _) L hf, ho, hd⟩, funFrames_base hr fun e he => hin e (.tail _ he)⟩
section
variable {w : World} {base : Heap} {fz : Led} {g : Array GenState} {d : Drawn} {os : OsState} {pin : Led} {H : List Addr} {n : Nat}
inductive RZF (w : World) (base : Heap) (fz : Led) (g : Array GenState) (d : Drawn) (os : OsState) (pin : Led) (H : List Addr) (l : List PySem.Env) (news : Led) (φ : List Addr) (vs : List V) (e : Value) (s' : Shared) : Prop
  | mk (ea : Addr) (a0 : Value) (B h' : Heap) (tk' : Nat) (D : Addr) (es : List DictEntry) (n : Nat) (news' : Led) (φ' : List Addr) (oe : Obj) :
    e = .ref ea -> s' = ⟨h', g, d, tk', os⟩ -> base.StaysIn B -> Heap.FlyingW B l ea (.ref 80) a0 h' -> h'.get? ea = some oe -> oe.dict = some D -> (D, dictOf es n) ∈ news' -> VFs CA0 (FX0 pw_sj0033_01 w pin) news' φ' H es [n_kind, n_at, n_detail] vs ->
    Ext H news φ news' φ' -> (∀ q ∈ news', B.get? q.1 = some q.2 /\ base.get? q.1 = none) -> FeedOk pin H news' -> (news'.map (·.1)).Nodup -> (∀ p ∈ fz, (∀ vs, p.2.data ≠ .fields vs) /\ ∃ sl, h'.get? p.1 = some { p.2 with slots := sl }) -> RZF w base fz g d os pin H l news φ vs e s'
theorem RZ.leaveF {T : Tab} {M : Model} {A : Around} {E : Value -> Shared -> Prop} {env : PySem.Env} {outer : List PySem.Env} {L : Addr} {news : Led} {φ : List Addr} {vs : List V} {e : Value} {s : Shared} {Q : Unit -> Shared -> Prop} (hfr : A.frames = some (env :: outer)) (hf : env.frame = some L)
    (z : RZZ (Z0 w base fz g d os T pin H) (env :: outer) news φ vs e s) (hQ : ∀ s', RZF w base fz g d os pin H outer news φ vs e s' -> Q () s') : wpAny M A (leaving env e) Q E s := by
  obtain ⟨ea, a0, B, h', tk', D, es, n, news', φ', oe, rfl, rfl, h3, h4, h5, h6, h7, h8, h9, h10, h11, h12, h13, h14⟩ := z
  refine FZ.leave (s := ⟨h', g, d, tk', os⟩) hfr hf h4 fun h'' fl dk up => ?_
  obtain ⟨oe', e1, e2⟩ := dk ea oe h5
  refine hQ _ ⟨ea, a0, B, h'', tk', D, es, n, news', φ', oe', rfl, rfl, h3, fl, e1, e2.trans h6, h7, h9, h10, h11, h12, h13, fun p hp => ⟨(h14 p hp).1, ?_⟩⟩
  obtain ⟨sl, hs⟩ := (h14 p hp).2
  obtain ⟨sl', hs'⟩ := up _ _ hs (h14 p hp).1
  exact ⟨sl', hs'⟩
set_option tactic.hygienic true
theorem try_call {A : Around} {env : PySem.Env} {outer : List PySem.Env} {h₀ : Heap} {L : Addr} {sc : List (Str × NameKind)} {fn : Fn} {fa : Addr} {vs : List Value} {xs : List V} {σ : Hp} {P : V -> Hp -> Prop} {X : List V -> Hp -> Prop} {h : Heap} {m : Str -> Option Value} {news : Led} {φ : List Addr} {tk : Nat} {Q E : Value -> Shared -> Prop}
    (FO : FnOk pw_sj0033_01 w CA0 (K0 w.params) fn fa) (C : CxZ (Z0 w base [] g d os T0 pin H) A env env outer h₀ L sc (n + 1)) (S : SimZ (Z0 w base [] g d os T0 pin H) h₀ L m h news φ σ) (rv : VRsZ (Z0 w base [] g d os T0 pin H) news φ vs xs)
    (hw : evD T0 (n + 1) fn xs σ P X) (hK : KE (Z0 w base [] g d os T0 pin H) h₀ L m news φ P Q)
    (hX : ∀ ws σ', X ws σ' -> ∀ e s' fz', (∃ o, (L, o) ∈ fz' /\ LCg.NsObj o m) -> (∀ b ∈ outer.filterMap (·.frame), ∃ o, (b, o) ∈ fz' /\ h₀.get? b = some o) -> RZF w (hideAll h₀ (outer.filterMap (·.frame))) fz' g d os pin H (env :: outer) news φ ws e s' -> E e s') :
    wpAny (model pw_sj0033_01 w) A (call (.ref fa) vs) Q E ⟨h, g, d, tk, os⟩ := by
  obtain ⟨A₀, B⟩ := C.below
  obtain ⟨mean, mg, mb, T⟩ := C.T
  obtain ⟨name, qual, params, scope, dV, kV, doc, pm, an, cdv, ct, oc, od, osl, pn, h1, h2, h3, h4, h5, h6, h7, h8, h9, h10, h11, h12⟩ := FO
  unfold evD at hw
  split at hw
  case h_2 => exact hw.elim
  rename_i bs hb
  obtain ⟨ws, hbind, rws, hwl⟩ : ∃ ws, BindsTo ⟨h, g, d, tk, os⟩ (PySem.W.fnOf name qual params fn.body scope dV kV doc pm an cdv ct) ⟨vs, []⟩ (pn.zip ws) /\ VRsZ (Z0 w base [] g d os T0 pin H) news φ ws bs /\ bs.length = pn.length := by
    have hpl : fn.params.length = pn.length := by rw [<- h8]; simp
    rcases bindA_cases hb with ⟨rfl, e⟩ | ⟨dv, ds, hd, rfl, e⟩
    · exact ⟨vs, h11 _ _ (C.X.keeps S.F.keep) (by rw [rv.length]; omega), rv, by omega⟩
    · obtain ⟨wv, hwv, hbt⟩ := h12 dv ds hd
      exact ⟨vs ++ [wv], hbt _ _ (C.X.keeps S.F.keep) (by rw [rv.length]; omega), rv.append (.cons (hwv _ _ _ _) .nil), by rw [List.length_append, List.length_singleton]; omega⟩
  have hzip : ((pn.zip ws).map (·.1)) = pn := by
    rw [List.map_fst_zip]
    rw [rws.length, hwl]; exact Nat.le_refl _
  refine wpAny_call (code_def (s := ⟨h, g, d, tk, os⟩) B S.F C.X S.N T C.fr C.tf C.tk h1 h2 (by have := C.dep; omega) hbind (fun y hy => ?_) (fun g' L' h₁ FG F' N' B' X' T' => ?_) h4 h5 h6 h7)
  · have : y.1 ∈ pn := by rw [<- hzip]; exact List.mem_map.mpr ⟨y, hy, rfl⟩
    exact (isLoc_iff (h9 _ this)).1
  obtain ⟨oL, hoL, nL⟩ := LCg.ns_obj FG.ns
  have hfz : ∃ fz' : Led, (L, oL) ∈ fz' /\ (∀ b ∈ outer.filterMap (·.frame), ∃ o, (b, o) ∈ fz' /\ h₀.get? b = some o) /\ ∀ p ∈ fz', (∀ vs, p.2.data ≠ .fields vs) /\ g'.get? p.1 = some p.2 := by
    refine ⟨(L, oL) :: (outer.filterMap (·.frame)).filterMap (fun b => (h₀.get? b).map fun o => (b, o)), .head _, fun b hb => ?_, fun p hp => ?_⟩
    · obtain ⟨_, o, ho, hd⟩ := B.frames.mem hb
      exact ⟨o, .tail _ (List.mem_filterMap.mpr ⟨b, hb, by rw [ho]; rfl⟩), ho⟩
    · rcases List.mem_cons.mp hp with rfl | hp
      · obtain ⟨es, ep, hd, _⟩ := nL
        exact ⟨fun vs e => (by rw [hd] at e; cases e), hoL⟩
      · obtain ⟨b, hb, e⟩ := List.mem_filterMap.mp hp
        obtain ⟨_, o, ho, hd⟩ := B.frames.mem hb
        rw [ho] at e
        cases e
        exact ⟨hd, FG.keep _ _ ho⟩
  obtain ⟨fz', hfL, hfo, hfz⟩ := hfz
  have hb0 : ∀ b o, (hideAll h₀ (outer.filterMap (·.frame))).get? b = some o -> g'.get? b = some o := fun b o e => FG.keep _ _ (of_hideAll _ e)
  have B2 : Below A (hideAll h₀ (outer.filterMap (·.frame))) (env :: outer) g' := by
    refine ⟨B'.stack, hb0, funFrames_base B'.frames fun env' he a hf => ?_⟩
    rcases List.mem_cons.mp he with rfl | he
    · rw [C.tf] at hf
      obtain rfl : L = a := Option.some.inj hf
      cases q : (hideAll h₀ (outer.filterMap (·.frame))).get? L with
      | none => rfl
      | some o => exact absurd (Nat.lt_of_lt_of_le (Heap.lt_size (of_hideAll _ q)) S.F.above) (Nat.lt_irrefl _)
    · exact hideAll_none _ (List.mem_filterMap.mpr ⟨env', he, hf⟩)
  have C1 : CxZ (Z0 w (hideAll h₀ (outer.filterMap (·.frame))) fz' g d os T0 pin H) (A.deeper (envOf qual scope L' fa cdv)) (envOf qual scope L' fa cdv) (envOf qual scope L' fa cdv) (env :: outer) g' L' fn.sc n :=
    ⟨envX_good (cl := []) h6 h3, rfl, h6, ⟨A, B2⟩, Around.frames_deeper C.fr, X', ⟨mean, mg, mb, T'⟩, C.hd, by have := C.dep; show A.depth + 1 + n < _; omega, by have := C.un; show A.units + 3 + 4 * n + 100 < _; omega,
      fun p hp => ⟨(hfz p hp).1, p.2.slots, (hfz p hp).2⟩⟩
  have hls : fn.params.length = bs.length := by rw [<- h8]; simp [hwl]
  refine (sound0 (w := w) (base := hideAll h₀ (outer.filterMap (·.frame))) (fz := fz') (g := g) (d := d) (os := os) n pin H).ss fn.body ⟨fn.nm, fn.sc, fn.params, bs⟩ σ _ X ⟨rfl, rfl⟩ C1 (S.turn F' N') ⟨fun x v e => ?_, hls⟩ hw (fun fl ρ' σ' p f h' tk' m' news' φ' rf S' E' O' _ => ?_) (fun vs' σ' x e s' z => ?_) PassesOwn.leaving
  · have e' : look (pn.map fun y => y.cps.toList) bs x.cps.toList = some v := by rw [h8]; exact e
    obtain ⟨w', q1, q2⟩ := zip_look h10 rws x v e'
    obtain ⟨y, hy, ee⟩ := List.mem_map.mp (look_key e')
    have hyx : y = x := str_ext ee
    subst hyx
    have hl := C1.env_.locOk (x := y) (by rw [<- h3]; exact h9 y hy)
    exact ⟨hl.2, .loc hl.1 rfl (by rw [lookup_rev (by rw [hzip]; exact h10)]; exact q1) q2⟩
  · have fin : ∀ {v : Value} {x : V}, P x σ' -> VRZ (Z0 w base [] g d os T0 pin H) news' φ' v x -> LeaveK h₀ L m g' (fun r s' => match r with | .ok (.ret v) => Q v s' | .ok _ => False | .error e => E e s') v ⟨h', g, d, tk', os⟩ := fun {v x} px rx =>
      leaveK_ (s' := ⟨h', g, d, tk', os⟩) S'.F S'.N fun F2 N2 => hK _ _ px _ _ _ _ _ (S'.turn F2 N2) E' rx
    cases rf with
    | next => exact fin p .none
    | ret r => exact fin p r
    | brk => exact p.elim
    | cont => exact p.elim
  · exact RZ.leaveF (Around.frames_deeper C.fr) rfl z fun s'' z' => hX _ _ x _ _ fz' ⟨oL, hfL, nL⟩ hfo z'
end
end Mine
end

section
open PySem PySem.W PySem.Calls PyProof.Rows
namespace Mine
section
variable {M : Model} {A : Around} {E : Value -> Shared -> Prop} {B : Heap} {env : PySem.Env} {outer l : List PySem.Env} {L e : Addr} {cls a0 : Value} {s : Shared} {Q : Unit -> Shared -> Prop}
set_option tactic.hygienic false
theorem noted_held (hfr : A.frames = some (env :: outer)) (hf : env.frame = some L) (hfl : Heap.FlyingW B (env :: outer) e cls a0 s.heap)
    (hQ : ∀ h', Heap.HeldW B (env :: outer) e cls a0 L h' -> s.heap.UpToSlots h' -> DK s.heap h' -> Q () { s with heap := h' }) : wpAny M A (noteFrame (.ref e) env) Q E s := by
  refine wpAny_mono ((kd_noteFrame (.ref e) env).any (Q := fun _ s' => ∃ h', s' = { s with heap := h' } /\ Heap.HeldW B (env :: outer) e cls a0 L h' /\ s.heap.UpToSlots h') (wpAny_looks_onW hfr hf hfl fun h' x y => ⟨h', rfl, x, y⟩)) (fun u s' hh => ?_) fun _ _ x => x
  obtain ⟨⟨h', rfl, x, y⟩, dk⟩ := hh
  exact hQ h' x y dk
theorem set_fly (hh : Heap.HeldW B l e cls a0 L s.heap) (hQ : ∀ h', Heap.FlyingW B l e cls a0 h' -> s.heap.UpToSlots h' -> DK s.heap h' -> Q () { s with heap := h' }) : wpAny M A (setFlight (.ref e) none) Q E s := by
  refine wpAny_mono ((kd_setFlight (.ref e) none).any (Q := fun _ s' => ∃ h', s' = { s with heap := h' } /\ Heap.FlyingW B l e cls a0 h' /\ s.heap.UpToSlots h') (wpAny_landsW hh fun h' x y => ⟨h', rfl, x, y⟩)) (fun u s' hh => ?_) fun _ _ x => x
  obtain ⟨⟨h', rfl, x, y⟩, dk⟩ := hh
  exact hQ h' x y dk
theorem set_fly2 (hh : Heap.FlyingW B l e cls a0 s.heap) (hQ : ∀ h', Heap.FlyingW B l e cls a0 h' -> s.heap.UpToSlots h' -> DK s.heap h' -> Q () { s with heap := h' }) : wpAny M A (setFlight (.ref e) none) Q E s := by
  refine wpAny_mono ((kd_setFlight (.ref e) none).any (Q := fun _ s' => ∃ h', s' = { s with heap := h' } /\ Heap.FlyingW B l e cls a0 h' /\ s.heap.UpToSlots h') (lands_againW hh fun h' x y => ⟨h', rfl, x, y⟩)) (fun u s' hh => ?_) fun _ _ x => x
  obtain ⟨⟨h', rfl, x, y⟩, dk⟩ := hh
  exact hQ h' x y dk
end
section
variable {w : World} {base : Heap} {g : Array GenState} {d : Drawn} {os : OsState} {pin : Led} {H : List Addr} {n : Nat}
theorem ground_again {A₀ : Around} {outer : List PySem.Env} {h₀ h₆ : Heap} {fz' : Led} (B : Below A₀ base outer h₀)
    (hst : ∀ b o, (hideAll h₀ (outer.filterMap (·.frame))).get? b = some o -> h₆.get? b = some o)
    (hfo : ∀ b ∈ outer.filterMap (·.frame), ∃ o, (b, o) ∈ fz' /\ h₀.get? b = some o) (hfz : ∀ p ∈ fz', ∃ sl, h₆.get? p.1 = some { p.2 with slots := sl }) :
    ∃ g₁, KtsTurn (outer.filterMap (·.frame)) h₀ g₁ /\ (∀ b o, g₁.get? b = some o -> h₆.get? b = some o) /\ Below A₀ base outer g₁ := by
  obtain ⟨T, S⟩ := kts_turn_at (h := h₆) (fs := outer.filterMap (·.frame)) (g := h₀)
    (fun b hb => let ⟨o, _, ho⟩ := hfo b hb; ⟨o, ho⟩)
    (fun b o q nm => hst b o (hideAll_get _ q nm))
    (fun b o q hm => by
      obtain ⟨o', m1, m2⟩ := hfo b hm
      rw [q] at m2
      cases m2
      exact hfz _ m1)
  refine ⟨_, T, S, ⟨B.stack, fun b o q => T.other b o (B.stays b o q) (fun hm => by
    rw [(B.frames.mem hm).1] at q
    cases q), B.frames.of_keeps fun b o q _ => ?_⟩⟩
  obtain ⟨sl, hs⟩ := T.up q
  exact ⟨_, hs, rfl⟩
noncomputable def VFsI (CA : ClsAt) (FX : Fix) (news : Led) (φ H : List Addr) (es : List DictEntry) : List N -> List V -> Prop
  | k :: ks, x :: xs => ∃ i s t v es', es = ⟨i, .str s t, v⟩ :: es' /\ s.cps.toList = k /\ VR CA FX news φ H v x /\ VFs CA FX news φ H es' ks xs
  | _, _ => True
theorem VFs.inv {CA : ClsAt} {FX : Fix} {H : List Addr} {news : Led} {φ : List Addr} {es : List DictEntry} {ks : List N} {l : List V} (r : VFs CA FX news φ H es ks l) : VFsI CA FX news φ H es ks l := by
  cases r with
  | nil => exact trivial
  | cons a b c => exact ⟨_, _, _, _, _, rfl, a, b, c⟩
theorem VFs.cons_e {CA : ClsAt} {FX : Fix} {H : List Addr} {news : Led} {φ : List Addr} {es : List DictEntry} {k : N} {ks : List N} {x : V} {l : List V} (r : VFs CA FX news φ H es (k :: ks) (x :: l)) :
    ∃ i s t v es', es = ⟨i, .str s t, v⟩ :: es' /\ s.cps.toList = k /\ VR CA FX news φ H v x /\ VFs CA FX news φ H es' ks l := r.inv
theorem VFs.two_e {CA : ClsAt} {FX : Fix} {H : List Addr} {news : Led} {φ : List Addr} {es : List DictEntry} {x1 x2 : Str} {ks : List N} {a b : V} {l : List V} (h : VFs CA FX news φ H es (x1.cps.toList :: x2.cps.toList :: ks) (a :: b :: l)) :
    ∃ i1 t1 v1 i2 t2 v2 es2, es = ⟨i1, .str x1 t1, v1⟩ :: ⟨i2, .str x2 t2, v2⟩ :: es2 /\ VR CA FX news φ H v1 a /\ VR CA FX news φ H v2 b := by
  replace h := h.cons_e
  obtain ⟨i, s, t, v, es, rfl, k1, r1, h⟩ := h
  replace h := h.cons_e
  obtain ⟨i, s, t, v, es, rfl, k2, r2, h⟩ := h
  obtain rfl := str_ext k1
  obtain rfl := str_ext k2
  exact ⟨_, _, _, _, _, _, _, rfl, r1, r2⟩
theorem none_some {α : Type} {o : Option α} {x : α} (h : o = none) (k : o = some x) : False := by
  rw [h] at k
  cases k
noncomputable abbrev kCx : Str := Str.ofString "SourceError"
noncomputable abbrev kXx : Str := Str.ofString "error"
noncomputable abbrev kYx : Str := Str.ofString "told"
theorem catch_told {A : Around} {env : PySem.Env} {outer : List PySem.Env} {h₀ : Heap} {L : Addr} {sc : List (Str × NameKind)} {m : Str -> Option Value} {news : Led} {φ : List Addr} {a : N} {b : Int} {c : V} {e : Value} {s' : Shared} {fz' : Led} {Q : PySem.Flow -> Shared -> Prop} {E : Value -> Shared -> Prop}
    (cx : CxZ (Z0 w base [] g d os T0 pin H) A env env outer h₀ L sc n) (ow : env.locals = L) (XB : (K0 w.params).In base) (TB : ∃ mean mg mb, Top qv (looseW qv ["GateloomError"]) mean mg mb base) (hab : h₀.objs.size <= L)
    (hC : leq kCx.cps.toList n_src = true) (hg : isGlb sc kCx.cps.toList = true) (hx : isLoc sc kXx.cps.toList = true) (hy : isLoc sc kYx.cps.toList = true) (hyx : kYx ≠ kXx)
    (hL : ∃ o, (L, o) ∈ fz' /\ LCg.NsObj o m) (hfo : ∀ b ∈ outer.filterMap (·.frame), ∃ o, (b, o) ∈ fz' /\ h₀.get? b = some o)
    (z : RZF w (hideAll h₀ (outer.filterMap (·.frame))) fz' g d os pin H (env :: outer) news φ [.str a, .int b, c] e s')
    (hK : ∀ h' tk' g₁ news' φ' u m', KtsTurn (outer.filterMap (·.frame)) h₀ g₁ -> CxZ (Z0 w base [] g d os T0 pin H) A env env outer g₁ L sc n -> SimZ (Z0 w base [] g d os T0 pin H) g₁ L m' h' news' [] [] -> Ext H news φ news' φ' -> VRZ (Z0 w base [] g d os T0 pin H) news' [] u (.tup [.str a, .int b]) ->
      (∀ z, z ≠ kXx -> z ≠ kYx -> m' z = m z) -> m' kYx = some u -> Q .next ⟨h', g, d, tk', os⟩) :
    wpAny (model pw_sj0033_01 w) A (noteFrame e env) (fun _ s₂ => wpAny (model pw_sj0033_01 w) A (setFlight e none) (fun _ s₃ =>
      wpAny (model pw_sj0033_01 w) A (handleBy e env [.ExceptHandler (some (.Name kCx ⟨279, 11, 279, 22⟩)) (some kXx) [.Assign [.Name kYx ⟨280, 8, 280, 12⟩] (.Tuple [.Attribute (.Name kXx ⟨280, 16, 280, 21⟩) (Str.ofString "kind") ⟨280, 16, 280, 26⟩, .Attribute (.Name kXx ⟨280, 28, 280, 33⟩) (Str.ofString "at") ⟨280, 28, 280, 36⟩] 0 ⟨280, 15, 280, 37⟩) ⟨280, 8, 280, 37⟩] ⟨279, 4, 280, 37⟩]) Q E s₃) E s₂) E s' := by
  obtain ⟨ea, a0, B, h', tk', D, es, k, news', φ', oe, rfl, rfl, hB, hfl, hoe, hod, hD, hv, hex, hnw, hfd, hnd, hfz⟩ := z
  obtain ⟨i1, t1, v1, i2, t2, v2, es2, rfl, r1, r2⟩ := VFs.two_e (x1 := Str.ofString "kind") (x2 := Str.ofString "at") hv
  obtain ⟨A₀, bl⟩ : ∃ A₀, Below A₀ base outer h₀ := cx.below
  refine noted_held (s := ⟨h', g, d, tk', os⟩) cx.fr cx.tf hfl fun h₄ held₄ sm₄ dk₄ => ?_
  refine set_fly (s := ⟨h₄, g, d, tk', os⟩) held₄ fun h₅ fl₅ sm₅ dk₅ => ?_
  have bB0 : ∀ b o, base.get? b = some o -> (hideAll h₀ (outer.filterMap (·.frame))).get? b = some o := fun b o q => hideAll_get _ (bl.stays b o q) fun hm => none_some (bl.frames.mem hm).1 q
  have bB : ∀ b o, base.get? b = some o -> B.get? b = some o := fun b o q => hB b o (bB0 b o q)
  obtain ⟨g1, g2⟩ := cx.env_.glOk hg
  have hCe : kCx = mk n_src := str_ext (leq_eq hC)
  have hcls : nsIn (K0 w.params) mainGlobals kCx = some (some (.ref 80)) := by rw [hCe]; kernel_rfl
  obtain ⟨mean, mg, mb, T⟩ := TB
  have T' := topRead_of T
  have kp₅ : ∀ b o, base.get? b = some o -> h₅.get? b = some o := fun b o q => fl₅.1 b o (bB b o q)
  refine wpAny_handleBy_cons (codeAny_handlers_test (Name_function_global cx.env_.kind g1 (loadGlobal_global (s := ⟨h₅, g, d, tk', os⟩) (by rw [cx.env_.glob]; exact T'.g.keeps kp₅) (mg_of XB T'.g hcls) ?_) g2)) (by intro q; cases q)
  obtain ⟨ob, hob, hobc⟩ := fl₅.there
  refine wpAny_excMatches_sub_self (kp₅ _ _ (XB _ _ (k80 w.params))) hob hobc (by decide +kernel) (codeAny_handlers_suite_as ?_)
  refine set_fly2 (s := ⟨h₅, g, d, tk', os⟩) fl₅ fun h₆ fl₆ sm₆ dk₆ => ?_
  have sm : h'.UpToSlots h₆ := (sm₄.trans sm₅).trans sm₆
  have dk : DK h' h₆ := (dk₄.trans dk₅).trans dk₆
  obtain ⟨oe', e1, e2⟩ := dk _ _ hoe
  obtain ⟨oe₂, ws, e3, e4, e5, _⟩ := fl₆.first
  obtain rfl := Option.some.inj (e1.symm.trans e3)
  have notB : ∀ env' ∈ (env :: outer), ∀ b, env'.frame = some b -> B.get? b = none := fun env' he b hb => (fl₆.2.2.1.mem (List.mem_filterMap.mpr ⟨env', he, hb⟩)).1
  have hLB : B.get? L = none := notB env (.head _) L cx.tf
  have hfz₆ : ∀ p ∈ fz', ∃ sl, h₆.get? p.1 = some { p.2 with slots := sl } := fun p hp => by
    obtain ⟨h1, sl, h2⟩ := hfz p hp
    obtain ⟨sl', h3⟩ := sm _ _ h2 h1
    exact ⟨sl', h3⟩
  obtain ⟨g₁, T₁, S₁, B₁⟩ := ground_again (h₆ := h₆) bl (fun b o q => fl₆.1 b o (hB b o q)) hfo hfz₆
  have F₆ : Fr g₁ L h₆ m := by
    obtain ⟨o, m1, n1⟩ := hL
    obtain ⟨sl, h1⟩ := hfz₆ _ m1
    obtain ⟨es', ep, hd, r⟩ := n1
    exact ⟨⟨_, es', ep, h1, hd, r⟩, S₁, by rw [T₁.size]; exact hab⟩
  have fr1 : ∀ q : Addr × Obj, B.get? q.1 = some q.2 -> (hideAll h₀ (outer.filterMap (·.frame))).get? q.1 = none -> g₁.get? q.1 = none := fun q h1 h2 => by
    refine T₁.none_ _ ?_
    cases hq : h₀.get? q.1 with
    | none => rfl
    | some o =>
      by_cases hm : q.1 ∈ outer.filterMap (·.frame)
      · obtain ⟨env', he, hf⟩ := List.mem_filterMap.mp hm
        exact (none_some (notB env' (.tail _ he) _ hf) h1).elim
      · exact (none_some h2 (hideAll_get _ hq hm)).elim
  have N₆ : News g₁ L h₆ news' := fun q hq => by
    obtain ⟨h1, h2⟩ := hnw q hq
    refine ⟨fl₆.1 _ _ h1, (fun z => ?_), fr1 q h1 h2⟩
    rw [z] at h1
    exact none_some hLB h1
  have hea : g₁.get? ea = none := by
    refine T₁.none_ _ ?_
    cases hq : h₀.get? ea with
    | none => rfl
    | some o =>
      by_cases hm : ea ∈ outer.filterMap (·.frame)
      · obtain ⟨o', m1, m2⟩ := hfo _ hm
        obtain ⟨sl, h1⟩ := hfz₆ _ m1
        have hne := (hfz _ m1).1
        have h1' : oe' = { o' with slots := sl } := Option.some.inj (e1.symm.trans h1)
        exact absurd ((congrArg Obj.data h1').symm.trans e5) (hne ws)
      · have h1 := hB _ _ (hideAll_get _ hq hm)
        exact (none_some fl₆.2.1 h1).elim
  have heL : ea ≠ L := fun q => by
    obtain ⟨o, m1, n1⟩ := hL
    obtain ⟨sl, h1⟩ := hfz₆ _ m1
    obtain ⟨es', ep, hd, r⟩ := n1
    rw [<- q] at h1
    have h1' : oe' = { o with slots := sl } := Option.some.inj (e1.symm.trans h1)
    have h2 := (e5.symm.trans (congrArg Obj.data h1')).trans hd
    cases h2
  have N₆' : News g₁ L h₆ ((ea, oe') :: news') := fun q hq => by
    rcases List.mem_cons.mp hq with rfl | hq
    · exact ⟨e1, heL, hea⟩
    · exact N₆ q hq
  have hx' := cx.env_.locOk hx
  have hy' := cx.env_.locOk hy
  refine storeG (sc := sc) cx.env_ ow hx'.1 F₆ N₆' fun h₇ F₇ N₇ => ?_
  have X₁ : (K0 w.params).In g₁ := XB.keeps B₁.stays
  have X₇ : (K0 w.params).In h₇ := X₁.keeps F₇.keep
  have I₇ : InstAt h₇ ea oe' 80 (some (dictOf (⟨i1, .str (Str.ofString "kind") t1, v1⟩ :: ⟨i2, .str (Str.ofString "at") t2, v2⟩ :: es2) k)) := ⟨N₇.get (.head _), e4, by unfold notCls; rw [e5], by rw [e2, hod]; exact N₇.get (.tail _ hD)⟩
  have mx : (fun y => if y = kXx then some (Value.ref ea) else m y) kXx = some (.ref ea) := if_pos rfl
  have nme : ∀ {p : Pos} {t : Nat} {Q' : Value -> Shared -> Prop} {E' : Value -> Shared -> Prop}, Q' (.ref ea) ⟨h₇, g, d, t, os⟩ -> wpAny (model pw_sj0033_01 w) (A.mark (some (.ref ea))) (eval (.Name kXx p) env) Q' E' ⟨h₇, g, d, t, os⟩ := fun hq =>
    wpAny_Name (wpAny_loadName_local cx.env_.kind hx'.1 (by rw [ow]; exact F₇.ns) mx hq) hx'.2
  have f1 : findObj (K0 w.params) 80 (some (dictOf (⟨i1, .str (Str.ofString "kind") t1, v1⟩ :: ⟨i2, .str (Str.ofString "at") t2, v2⟩ :: es2) k)) (Str.ofString "kind") = some (.value v1) :=
    findObj_own (attr := none) (by kernel_rfl) (by kernel_rfl) (by rfl) (by rw [lookIn_dict]; rfl)
  have f2 : findObj (K0 w.params) 80 (some (dictOf (⟨i1, .str (Str.ofString "kind") t1, v1⟩ :: ⟨i2, .str (Str.ofString "at") t2, v2⟩ :: es2) k)) (Str.ofString "at") = some (.value v2) :=
    findObj_own (attr := none) (by kernel_rfl) (by kernel_rfl) (by rfl) (by rw [lookIn_dict]; rfl)
  have att : ∀ {f : Str} {v : Value} {p1 p2 : Pos} {t : Nat} {Q' : Value -> Shared -> Prop} {E' : Value -> Shared -> Prop}, findObj (K0 w.params) 80 (some (dictOf (⟨i1, .str (Str.ofString "kind") t1, v1⟩ :: ⟨i2, .str (Str.ofString "at") t2, v2⟩ :: es2) k)) f = some (.value v) -> handedIn v = true -> Q' v ⟨h₇, g, d, t + 1, os⟩ -> wpAny (model pw_sj0033_01 w) (A.mark (some (.ref ea))) (eval (.Attribute (.Name kXx p1) f p2) env) Q' E' ⟨h₇, g, d, t, os⟩ := fun hf hh hq =>
    Attribute_any_ (nme (exc_get (ec80 w.params) X₇ I₇ hf hh hq)) (by rw [arm_eval_Attribute, attributeBase_ok (by rfl)])
  refine wpAny_execs_cons (Assign_any (by rfl) (by rfl) (by rfl) (Tuple_ (spliced_more (att f1 (handed_VR r1) (spliced_more (att f2 (handed_VR r2) (spliced_none ?_)) (by rfl))) (by rfl))))
  refine newTuple_N (s := ⟨h₇, g, d, _, os⟩) F₇ N₇ (fun h₈ F₈ N₈ => ?_) (by rw [sizeLine_eq]; exact (by decide : 2 <= 16777216))
  refine wpAny_assign_Name (storeG (sc := sc) cx.env_ ow hy'.1 F₈ N₈ fun h₉ F₉ N₉ => ?_)
  refine wpAny_execs_nil ?_
  refine wpAny_nameGoes_keeps hx'.1 (by rw [ow]; exact F₉.ns) (by rw [cx.env_.kind]; rfl) fun h₁₀ v hn hs => ?_
  rw [ow] at hn hs
  have F₁₀ := F₉.set hn hs
  have N₁₀ := N₉.set hs
  have lt : ∀ p ∈ news', p.1 < h₇.objs.size := fun p hp => Heap.lt_size (N₇.get (.tail _ hp))
  have ex2 : Ext H news' φ' ((h₇.objs.size, tupObj [v1, v2] 0) :: news') φ' := ext_cons lt
  have ND : (((h₇.objs.size, tupObj [v1, v2] 0) :: news').map (·.1)).Nodup := by
    rw [List.map_cons, List.nodup_cons]
    exact ⟨fun q => by obtain ⟨p, hp, e⟩ := List.mem_map.mp q; exact absurd (lt p hp) (by simp only at e; rw [e]; exact Nat.lt_irrefl _), hnd⟩
  have offH : h₇.objs.size ∉ H := fun q => by
    obtain ⟨_, m1⟩ := hfd.at q
    exact Nat.lt_irrefl _ (lt _ m1)
  have S : SimZ (Z0 w base [] g d os T0 pin H) g₁ L _ h₁₀ ((h₇.objs.size, tupObj [v1, v2] 0) :: news') [] [] :=
    ⟨F₁₀, fun p hp => by
      rcases List.mem_cons.mp hp with rfl | hp
      · exact N₁₀ _ (.head _)
      · exact N₁₀ _ (.tail _ (.tail _ hp)), ND, List.nodup_nil, rfl, (fun _ h => nomatch h), (fun i o q => by simp at q), hfd.mono fun p hp _ => .tail _ hp⟩
  refine hK h₁₀ _ g₁ ((h₇.objs.size, tupObj [v1, v2] 0) :: news') φ' (.ref h₇.objs.size) _ T₁ ⟨cx.env_, cx.tf, cx.tk, ⟨A₀, B₁⟩, cx.fr, X₁, ⟨mean, mg, mb, T.keeps B₁.stays⟩, cx.hd, cx.dep, cx.un, fun p hp => nomatch hp⟩ S (hex.trans ex2) ?_ (fun z z1 z2 => ?_) ?_
  · exact .tup (.head _) ⟨(fun q => nomatch q), offH⟩ (.cons (dat_VR 1 (VR.mono ex2 r1) (.str _)) (.cons (dat_VR 1 (VR.mono ex2 r2) (.int _)) .nil)) (by show 2 <= 4096; decide)
  · simp only [if_neg z1, if_neg z2]
  · simp only [if_neg hyx, if_pos]
end
end Mine
end

section
open PySem PySem.W PySem.Calls PyProof.Rows
namespace Mine
section
variable {Z : Wd} {n : Nat}
set_option tactic.hygienic false
theorem enter_turn {A : Around} {env top : PySem.Env} {h₀ : Heap} {L : Addr} {sc : List (Str × NameKind)} {fn : Fn} {fa : Addr} {vs : List Value} {xs : List V} {h : Heap} {m : Str -> Option Value} {news : Led} {φ : List Addr} {σ : Hp} {tk : Nat} {R : Result -> Shared -> Prop}
    (FO : FnOk Z.prog Z.w Z.CA Z.K fn fa) (C : CxZ Z A env top [] h₀ L sc (n + 1)) (S : SimZ Z h₀ L m h news φ σ) (rv : VRsZ Z news φ vs xs) (hl : fn.params.length = xs.length)
    (body : ∀ {A' : Around} {env' : PySem.Env} {L' : Addr} {g₀ h₁ : Heap} {m' : Str -> Option Value} {tk₁ : Nat} {Q' : PySem.Flow -> Shared -> Prop} {E' : Value -> Shared -> Prop},
      CxZ Z A' env' env' [top] g₀ L' fn.sc n -> Own env' env' L' -> g₀.objs.size <= L' -> SimZ Z g₀ L' m' h₁ news φ σ -> LO Z env' L' news φ m' ⟨fn.nm, fn.sc, fn.params, xs⟩ -> PassesOwn (model Z.prog Z.w) A' env' E' ->
      (∀ {v : Value} {g₁ h' : Heap} {tk' : Nat} {m₂ : Str -> Option Value} {news' : Led} {φ' : List Addr} {σ' : Hp}, KtsTurn [L] g₀ g₁ -> SimZ Z g₁ L' m₂ h' news' φ' σ' -> (SimZ Z h₀ L m h' news' φ' σ' -> R (.ok (.ret v)) ⟨h', Z.g, Z.d, tk', Z.os⟩) -> Q' (.ret v) ⟨h', Z.g, Z.d, tk', Z.os⟩) ->
      wpAny (model Z.prog Z.w) A' (execs fn.body env') Q' E' ⟨h₁, Z.g, Z.d, tk₁, Z.os⟩) :
    codeAny (model Z.prog Z.w) A (.call (.ref fa) ⟨vs, []⟩) R ⟨h, Z.g, Z.d, tk, Z.os⟩ := by
  obtain ⟨A₀, B⟩ := C.below
  obtain ⟨mean, mg, mb, T⟩ := C.T
  obtain ⟨name, qual, params, scope, dV, kV, doc, pm, an, cdv, ct, oc, od, osl, pn, h1, h2, h3, h4, h5, h6, h7, h8, h9, h10, h11, h12⟩ := FO
  have hpl : fn.params.length = pn.length := by rw [<- h8]; simp
  have hxl : xs.length = pn.length := by rw [<- hl, hpl]
  have X := C.X.keeps S.F.keep
  have hbind := h11 ⟨h, Z.g, Z.d, tk, Z.os⟩ vs X (by rw [rv.length, hxl])
  have hzip : ((pn.zip vs).map (·.1)) = pn := by
    rw [List.map_fst_zip]
    rw [rv.length, hxl]; exact Nat.le_refl _
  obtain ⟨FG, BG, st, _⟩ := groundX (s := ⟨h, Z.g, Z.d, tk, Z.os⟩) (R := R) B S.F S.N C.fr C.tf C.tk
  obtain ⟨oL, es, ep, hLg, hLd, hLk, hLf⟩ := FG.ns
  refine codeAny_call_def (fd := PySem.W.fnOf name qual params fn.body scope dV kV doc pm an cdv ct) (body := fn.body) (binds := pn.zip vs) (by have := C.dep; omega) (X _ _ h1) rfl (T.nolimit.keeps S.F.keep) (codeRec_of X h2) rfl hbind h7 (fun y hy => ?_) (fun h₁ hns hk₁ => ?_) h4 h5 h6
  · have : y.1 ∈ pn := by rw [<- hzip]; exact List.mem_map.mpr ⟨y, hy, rfl⟩
    exact (isLoc_iff (h9 _ this)).1
  · have hfr : [top].filterMap (·.frame) = [L] := by simp [C.tf]
    have F₁ : Fr (hideAll h (news.map (·.1))) h.objs.size h₁ (fun y => (pn.zip vs).reverse.lookup y) := ⟨hns, fun b o e => hk₁ b o (of_hideAll _ e), Nat.le_of_eq (hideAll_size _ _)⟩
    have N₁ : News (hideAll h (news.map (·.1))) h.objs.size h₁ news := fun p hp => ⟨hk₁ _ _ (S.N p hp).1, Nat.ne_of_lt (Heap.lt_size (S.N p hp).1), hideAll_none _ (List.mem_map_of_mem hp)⟩
    have C1 : CxZ Z (A.deeper (envOf qual scope h.objs.size fa cdv)) (envOf qual scope h.objs.size fa cdv) (envOf qual scope h.objs.size fa cdv) [top] (hideAll h (news.map (·.1))) h.objs.size fn.sc n :=
      ⟨envX_good (cl := []) h6 h3, rfl, h6, ⟨A, BG⟩, Around.frames_deeper C.fr, C.X.keeps st, ⟨mean, mg, mb, T.keeps st⟩, C.hd, by have := C.dep; show A.depth + 1 + n < _; omega, by have := C.un; show A.units + 3 + 4 * n + 100 < _; omega,
        fun p hp => ⟨(C.fz p hp).1, let ⟨sl, q⟩ := (C.fz p hp).2; ⟨sl, st _ _ q⟩⟩⟩
    refine body C1 ⟨rfl, rfl⟩ F₁.above (S.turn F₁ N₁) ⟨fun x v e => ?_, hl⟩ PassesOwn.leaving (fun {v g₁ h' tk' m₂ news' φ' σ'} T' S' k => ?_)
    · have e' : look (pn.map fun y => y.cps.toList) xs x.cps.toList = some v := by rw [h8]; exact e
      obtain ⟨w, q1, q2⟩ := zip_look h10 rv x v e'
      obtain ⟨y, hy, ee⟩ := List.mem_map.mp (look_key e')
      have hyx : y = x := str_ext ee
      subst hyx
      have hl := C1.env_.locOk (x := y) (by rw [<- h3]; exact h9 y hy)
      exact ⟨hl.2, .loc hl.1 rfl (by rw [lookup_rev (by rw [hzip]; exact h10)]; exact q1) q2⟩
    · have nL₀ : h₀.get? L = none := kts_self S.F
      obtain ⟨sl, hs⟩ := T'.up hLg
      have F2 : Fr h₀ L h' m := ⟨⟨_, es, ep, S'.F.keep _ _ hs, hLd, hLk, hLf⟩, fun b o e => S'.F.keep b o (T'.other b o (st b o e) (fun q => by
        rw [List.mem_singleton.mp q, nL₀] at e; cases e)), S.F.above⟩
      have N2 : News h₀ L h' news' := fun p hp => by
        refine ⟨(S'.N p hp).1, (fun q => ?_), ?_⟩
        · have := (S'.N p hp).2.2; rw [q, hs] at this; cases this
        · cases q : h₀.get? p.1 with
          | none => rfl
          | some o =>
            obtain ⟨sl', hs'⟩ := T'.up (st _ _ q)
            have := (S'.N p hp).2.2
            rw [hs'] at this
            cases this
      exact k (S'.turn F2 N2)
end
end Mine
end

section
open PySem PySem.W PySem.Calls PyProof.Rows
namespace Mine
noncomputable def nthS : List Stmt -> Nat -> Stmt
  | [], _ => .Pass ⟨0, 0, 0, 0⟩
  | s :: _, 0 => s
  | _ :: r, n + 1 => nthS r n
noncomputable def dropS : List Stmt -> Nat -> List Stmt
  | l, 0 => l
  | [], _ => []
  | _ :: r, n + 1 => dropS r n
noncomputable def tB : Stmt -> List Stmt
  | .Try b _ _ _ _ => b
  | _ => []
noncomputable def tH : Stmt -> List ExceptHandler
  | .Try _ h _ _ _ => h
  | _ => []
noncomputable def iA : Stmt -> List Stmt
  | .If _ a _ _ => a
  | _ => []
noncomputable def iB : Stmt -> List Stmt
  | .If _ _ b _ => b
  | _ => []
noncomputable def aT : Stmt -> PySem.Expr
  | .Assign [t] _ _ => t
  | _ => .Constant .none 0 ⟨0, 0, 0, 0⟩
noncomputable def rB : List Stmt := (fx (st 24)).body
noncomputable def rIf : Stmt := nthS (tB (nthS rB 2)) 0
noncomputable def ansiA : Stmt := nthS (iA rIf) 0
noncomputable def namesA : Stmt := nthS (iB rIf) 0
noncomputable def portA : Stmt := nthS (iB rIf) 1
noncomputable def toldA : Stmt := nthS (tB (nthS rB 2)) 1
noncomputable abbrev w_ (s : String) : N := (Str.ofString s).cps.toList
noncomputable def rρ (ks : List N) (vs : List V) : Mine.Env := ⟨(fx (st 24)).nm, (fx (st 24)).sc, ks, vs⟩
noncomputable def l5 (l : List (N × N × N)) (rows ports : List V) (br : Bool) : List (String × V) := [("moves", .dct l), ("row", .vls rows), ("ports", .vls ports), ("bracketed", .bool br), ("kept", .vls ports)]
noncomputable def Has (ps : List (String × V)) (ρ : Mine.Env) : Prop := ∀ p ∈ ps, look ρ.ks ρ.vs (w_ p.1) = some p.2
noncomputable def NoX : List V -> Hp -> Prop := fun _ _ => False
noncomputable def nxP (K : Mine.Env -> Hp -> Prop) : Fl -> Mine.Env -> Hp -> Prop := fun fl ρ σ => match fl with
  | .next => K ρ σ
  | _ => False
set_option tactic.hygienic false
theorem nxP_e {K : Mine.Env -> Hp -> Prop} {fl : Fl} {ρ : Mine.Env} {σ : Hp} (h : nxP K fl ρ σ) : fl = .next /\ K ρ σ := by
  cases fl with
  | next => exact ⟨rfl, h⟩
  | _ => exact h.elim
noncomputable def rtP (K : V -> Prop) : Fl -> Mine.Env -> Hp -> Prop := fun fl _ _ => match fl with
  | .ret v => K v
  | _ => False
theorem rtP_e {K : V -> Prop} {fl : Fl} {ρ : Mine.Env} {σ : Hp} (h : rtP K fl ρ σ) : ∃ v, fl = .ret v /\ K v := by
  cases fl with
  | ret v => exact ⟨v, rfl, h⟩
  | _ => exact h.elim
section
variable {Z : Wd} {n : Nat} {news : Led} {φ : List Addr} {f : PySem.Flow}
theorem FlR.next_e (r : FlR Z news φ f .next) : f = .next := by
  cases r
  rfl
theorem FlR.ret_e {x : V} (r : FlR Z news φ f (.ret x)) : ∃ v, f = .ret v /\ VRZ Z news φ v x := by
  cases r with
  | ret h => exact ⟨_, rfl, h⟩
theorem OK.s1 (ih : OK Z n) {A : Around} {env top : PySem.Env} {outer : List PySem.Env} {h₀ : Heap} {L : Addr} (s : Stmt) (ρ : Mine.Env) (σ : Hp) {K : Mine.Env -> Hp -> Prop} {X : List V -> Hp -> Prop} {h : Heap} {m : Str -> Option Value} {tk : Nat} {Q : PySem.Flow -> Shared -> Prop} {E : Value -> Shared -> Prop}
    (ow : Own env top L) (C : CxZ Z A env top outer h₀ L ρ.sc n) (S : SimZ Z h₀ L m h news φ σ) (O : LO Z env L news φ m ρ) (hw : evS Z.T n s ρ σ (nxP K) X)
    (hK : ∀ ρ' σ' h' tk' m' news' φ', K ρ' σ' -> SimZ Z h₀ L m' h' news' φ' σ' -> Ext Z.H news φ news' φ' -> LO Z env L news' φ' m' ρ' -> ρ'.sc = ρ.sc -> Q .next ⟨h', Z.g, Z.d, tk', Z.os⟩) (hX : XK Z (top :: outer) news φ X E) (po : PassesOwn (model Z.prog Z.w) A env E) :
    wpAny (model Z.prog Z.w) A (exec s env) Q E ⟨h, Z.g, Z.d, tk, Z.os⟩ :=
  ih.s s ρ σ _ X ow C S O hw (fun fl ρ' σ' p f h₂ tk₂ m₂ news₂ φ₂ rf S₂ E₂ O₂ hsc => by
    obtain ⟨e, p⟩ := nxP_e p
    rw [(e ▸ rf : FlR Z news₂ φ₂ f .next).next_e]
    exact hK _ _ _ _ _ _ _ p S₂ E₂ O₂ hsc) hX po
end
section
variable (l : List (N × N × N)) (rows ports : List V) (br : Bool)
noncomputable def tEnd (told : V) : Prop := evSs T0 250 (dropS rB 3) (rρ ((l5 l rows ports br ++ [("told", told)]).map fun p => w_ p.1) ((l5 l rows ports br ++ [("told", told)]).map (·.2))) [] (rtP fun v => v = .bool true) NoX
noncomputable def tTold (ρ : Mine.Env) (σ : Hp) : Prop := evS T0 250 toldA ρ σ (nxP fun ρ' σ' => Has (l5 l rows ports br) ρ' /\ oP (fun v => oP (fun w => ifB (isDb 8 w) (tEnd l rows ports br w)) (frz σ' v)) (look ρ'.ks ρ'.vs (w_ "told"))) NoX
noncomputable def tX : List V -> Hp -> Prop := fun ws _ => ∃ a b c, ws = [.str a, .int b, c] /\ tEnd l rows ports br (.tup [.str a, .int b])
noncomputable def tTry (ρ : Mine.Env) (σ : Hp) : Prop := Has (l5 l rows ports br) ρ /\ (br = true -> oP (fun cu => evD T0 240 (fx (st 2)) [cu] σ (fun v σ₁ => evA T0 250 (aT ansiA) v ρ σ₁ (fun ρ₂ σ₂ => tTold l rows ports br ρ₂ σ₂) NoX) (tX l rows ports br)) (look ρ.ks ρ.vs (w_ "cursor"))) /\
  (br = false -> evS T0 250 namesA ρ σ (nxP fun ρ₁ σ₁ => Has (l5 l rows ports br) ρ₁ /\ oP (fun cu => evD T0 240 (fx (st 3)) [cu, .vls ports] σ₁ (fun v σ₂ => evA T0 250 (aT portA) v ρ₁ σ₂ (fun ρ₂ σ₃ => tTold l rows ports br ρ₂ σ₃) NoX) (tX l rows ports br)) (look ρ₁.ks ρ₁.vs (w_ "cursor"))) NoX)
noncomputable def tRight : Prop := isDb 7 (.vls rows) = true /\ isDb 7 (.vls ports) = true /\ evS T0 250 (nthS rB 0) (rρ (fx (st 24)).params [.dct l, .vls rows, .vls ports, .bool br]) [] (nxP fun ρ σ => evS T0 250 (nthS rB 1) ρ σ (nxP (tTry l rows ports br)) NoX) NoX
end
mutual
theorem isDb_up : ∀ {n : Nat} {x : V}, isD n x -> isD (n + 1) x
  | _, _, h => by
    cases h with
    | none => exact .none
    | bool b => exact .bool b
    | int i => exact .int i
    | str s => exact .str s
    | tup h => exact .tup (isDs_up h)
    | vls h => exact .vls (isDs_up h)
theorem isDs_up : ∀ {n : Nat} {l : List V}, isDs n l -> isDs (n + 1) l
  | _, _, h => by
    cases h with
    | nil => exact .nil
    | cons h r => exact .cons (isDb_up h) (isDs_up r)
end
section
variable {Z : Wd} {n : Nat}
noncomputable def MAt (Z : Wd) (news : Led) (φ : List Addr) (ps : List (String × V)) (m : Str -> Option Value) : Prop := ∀ p ∈ ps, ∃ u, m (Str.ofString p.1) = some u /\ VRZ Z news φ u p.2
theorem MAt.mono {news news₂ : Led} {φ φ₂ : List Addr} {ps : List (String × V)} {m : Str -> Option Value} (e : Ext Z.H news φ news₂ φ₂) (h : MAt Z news φ ps m) : MAt Z news₂ φ₂ ps m := fun p hp => let ⟨u, a, b⟩ := h p hp; ⟨u, a, b.mono e⟩
theorem dat0 {news : Led} {φ : List Addr} {u : Value} {x : V} (hd : isD 8 x \/ ∃ l, x = .dct l) (r : VRZ Z news φ u x) : VRZ Z news [] u x := by
  rcases hd with hd | ⟨l, rfl⟩
  · exact dat_VR 8 r hd
  · cases r with
    | dct a b => exact .dct (fun p hp => ⟨(a p hp).1, off_nil (a p hp).2⟩) b
theorem MAt.nil {news : Led} {φ : List Addr} {ps : List (String × V)} {m : Str -> Option Value} (hd : ∀ p ∈ ps, isD 8 p.2 \/ ∃ l, p.2 = .dct l) (h : MAt Z news φ ps m) : MAt Z news [] ps m := fun p hp => let ⟨u, a, b⟩ := h p hp; ⟨u, a, dat0 (hd p hp) b⟩
theorem MAt.turn {news : Led} {φ : List Addr} {ps : List (String × V)} {m m' : Str -> Option Value} (h : MAt Z news φ ps m) (e : ∀ p ∈ ps, m' (Str.ofString p.1) = m (Str.ofString p.1)) : MAt Z news φ ps m' := fun p hp => let ⟨u, a, b⟩ := h p hp; ⟨u, (e p hp).trans a, b⟩
theorem Ext.nil {H : List Addr} {n₁ n₂ : Led} {φ : List Addr} (e : Ext H n₁ [] n₂ φ) : Ext H n₁ [] n₂ [] := ⟨⟨[], rfl⟩, fun p hp a b => ⟨(e.keep p hp a b).1, fun q => nomatch q⟩⟩
theorem mat_of {A : Around} {env top : PySem.Env} {outer : List PySem.Env} {h₀ : Heap} {L : Addr} {news : Led} {φ : List Addr} {m : Str -> Option Value} {ρ : Mine.Env} {ps : List (String × V)} {sc : List (Str × NameKind)} (hpin : Z.pin = []) (C : CxZ Z A env top outer h₀ L sc n) (O : LO Z env L news φ m ρ) (hs : Has ps ρ) (hl : ∀ p ∈ ps, isLoc sc (w_ p.1) = true) : MAt Z news φ ps m := fun p hp => by
  obtain ⟨_, k⟩ := O.at_ _ _ (hs p hp)
  have hk := (C.env_.locOk (x := Str.ofString p.1) (hl p hp)).1
  cases k with
  | loc a b c r => exact ⟨_, c, r⟩
  | own a b c d r => rw [hpin] at b; cases b
  | cel a b c d o g r => rw [hk] at a; rcases a with a | a <;> cases a
set_option tactic.hygienic true
theorem lo_of {A : Around} {env top : PySem.Env} {outer : List PySem.Env} {h₀ : Heap} {L : Addr} {news : Led} {φ : List Addr} {m : Str -> Option Value} {sc sc' : List (Str × NameKind)} {nm : N} (ow : Own env top L) (C : CxZ Z A env top outer h₀ L sc n) : ∀ {ps : List (String × V)}, (∀ p ∈ ps, isLoc sc (w_ p.1) = true) -> MAt Z news φ ps m -> LO Z env L news φ m ⟨nm, sc', ps.map (fun p => w_ p.1), ps.map (·.2)⟩ := by
  intro ps hl hm
  refine ⟨fun x v e => ?_, by simp⟩
  simp only at e
  induction ps with
  | nil => simp [look] at e
  | cons p ps ih =>
    simp only [List.map_cons, look] at e
    split at e
    · rename_i q
      cases e
      have hx : Str.ofString p.1 = x := str_ext (leq_iff.mp q)
      subst hx
      obtain ⟨u, a, b⟩ := hm p (.head _)
      have hk := C.env_.locOk (x := Str.ofString p.1) (hl p (.head _))
      exact ⟨hk.2, .loc hk.1 ow.2 a b⟩
    · exact ih (fun q hq => hl q (.tail _ hq)) (fun q hq => hm q (.tail _ hq)) e
end
set_option tactic.hygienic false
theorem evB_name (n : Nat) (x : Str) (p : Pos) (ρ : Mine.Env) (σ : Hp) (P : Bool -> Hp -> Prop) (X : List V -> Hp -> Prop) : evB T0 (n + 2) (.Name x p) ρ σ P X = oP (fun v => boolOf P v σ) (look ρ.ks ρ.vs x.cps.toList) := by kernel_rfl
end Mine
end

section
open PySem PySem.W PySem.Calls PyProof.Rows
namespace Mine
section
variable {w : World} {base : Heap} {g : Array GenState} {d : Drawn} {os : OsState} {H : List Addr} {n : Nat}
variable {l : List (N × N × N)} {rows ports : List V} {br : Bool}
set_option tactic.hygienic false
theorem right_sound {A : Around} {env top : PySem.Env} {h₀ : Heap} {L : Addr} {sc : List (Str × NameKind)} {vs : List Value} {h : Heap} {m : Str -> Option Value} {news : Led} {tk : Nat} {Q E : Value -> Shared -> Prop}
    (C : CxZ (Z0 w base [] g d os T0 [] H) A env top [] h₀ L sc 251) (XB : (K0 w.params).In base) (TB : ∃ mean mg mb, Top qv (looseW qv ["GateloomError"]) mean mg mb base)
    (S : SimZ (Z0 w base [] g d os T0 [] H) h₀ L m h news [] []) (rv : VRsZ (Z0 w base [] g d os T0 [] H) news [] vs [.dct l, .vls rows, .vls ports, .bool br]) (ht : tRight l rows ports br)
    (hQ : ∀ h' tk' news', SimZ (Z0 w base [] g d os T0 [] H) h₀ L m h' news' [] [] -> Ext H news [] news' [] -> Q (.bool true) ⟨h', g, d, tk', os⟩) :
    wpAny (model pw_sj0033_01 w) A (call (.ref 302) vs) Q E ⟨h, g, d, tk, os⟩ := by
  obtain ⟨d1, d2, ht⟩ := ht
  have hd5 : ∀ p ∈ l5 l rows ports br, isD 8 p.2 \/ ∃ l, p.2 = .dct l := fun p hp => by
    have e1 : isD 8 (.vls rows) := isDb_up (isDb_isD d1)
    have e2 : isD 8 (.vls ports) := isDb_up (isDb_isD d2)
    simp only [l5, List.mem_cons, List.not_mem_nil, or_false] at hp
    rcases hp with rfl | rfl | rfl | rfl | rfl
    · exact .inr ⟨_, rfl⟩
    · exact .inl e1
    · exact .inl e2
    · exact .inl (.bool _)
    · exact .inl e2
  have hne : ∀ p ∈ l5 l rows ports br, Str.ofString p.1 ≠ kXx /\ Str.ofString p.1 ≠ kYx := fun p hp => by
    simp only [l5, List.mem_cons, List.not_mem_nil, or_false] at hp
    rcases hp with rfl | rfl | rfl | rfl | rfl <;> dsimp only <;> exact ⟨by decide +kernel, by decide +kernel⟩
  have hl5 : ∀ p ∈ l5 l rows ports br, isLoc (fx (st 24)).sc (w_ p.1) = true := fun p hp => by
    simp only [l5, List.mem_cons, List.not_mem_nil, or_false] at hp
    rcases hp with rfl | rfl | rfl | rfl | rfl <;> kernel_rfl
  refine wpAny_call (enter_turn (Z := Z0 w base [] g d os T0 [] H) (n := 250) (fo_302 _ w w.params) C S rv (by kernel_rfl) fun {A' env' L' g₀ h₁ m₁ tk₁ Q' E'} C₁ ow hab S₁ O₁ po ret => ?_)
  have s0 := fun n => sound0 (w := w) (base := base) (fz := []) (g := g) (d := d) (os := os) n [] H
  have fin : ∀ {g₁ h' : Heap} {tk' : Nat} {m' : Str -> Option Value} {news' : Led} {told : V} {u : Value}, KtsTurn [L] g₀ g₁ -> CxZ (Z0 w base [] g d os T0 [] H) A' env' env' [top] g₁ L' (fx (st 24)).sc 250 -> SimZ (Z0 w base [] g d os T0 [] H) g₁ L' m' h' news' [] [] -> Ext H news [] news' [] -> MAt (Z0 w base [] g d os T0 [] H) news' [] (l5 l rows ports br) m' -> m' (Str.ofString "told") = some u -> VRZ (Z0 w base [] g d os T0 [] H) news' [] u told -> tEnd l rows ports br told ->
      wpAny (model pw_sj0033_01 w) A' (execs (dropS rB 3) env') Q' E' ⟨h', g, d, tk', os⟩ := fun {g₁ h' tk' m' news' told u} KT Cx' S' ex hm hu ru he => by
    have M : MAt (Z0 w base [] g d os T0 [] H) news' [] (l5 l rows ports br ++ [("told", told)]) m' := fun p hp => by
      rcases List.mem_append.mp hp with hp | hp
      · exact hm p hp
      · rw [List.mem_singleton.mp hp]; exact ⟨u, hu, ru⟩
    have hl6 : ∀ p ∈ l5 l rows ports br ++ [("told", told)], isLoc (fx (st 24)).sc (w_ p.1) = true := fun p hp => by
      rcases List.mem_append.mp hp with hp | hp
      · exact hl5 p hp
      · rw [List.mem_singleton.mp hp]; kernel_rfl
    refine (s0 250).ss _ _ [] _ NoX ow Cx' S' (lo_of ow Cx' hl6 M) he (fun fl ρ' σ' p f h₂ tk₂ m₂ news₂ φ₂ rf S₂ E₂ O₂ hsc => ?_) (fun _ _ x => x.elim) po
    obtain ⟨_, rfl, rfl⟩ := rtP_e p
    obtain ⟨u, rfl, r⟩ := rf.ret_e
    obtain rfl := r.bool_e
    exact ret KT (news' := news₂) (φ' := []) (σ' := []) S₂.drop fun S₃ => hQ _ _ _ S₃ (ex.trans E₂.nil)
  have told : ∀ {ρ : Mine.Env} {σ : Hp} {h' : Heap} {tk' : Nat} {m' : Str -> Option Value} {news' : Led} {φ' : List Addr} {QT : PySem.Flow -> Shared -> Prop} {ET : Value -> Shared -> Prop}, ρ.sc = (fx (st 24)).sc -> SimZ (Z0 w base [] g d os T0 [] H) g₀ L' m' h' news' φ' σ -> LO (Z0 w base [] g d os T0 [] H) env' L' news' φ' m' ρ -> Ext H news [] news' φ' -> tTold l rows ports br ρ σ ->
      (∀ s, wpAny (model pw_sj0033_01 w) A' (execs (dropS rB 3) env') Q' E' s -> QT .next s) ->
      wpAny (model pw_sj0033_01 w) A' (execs [toldA] env') QT ET ⟨h', g, d, tk', os⟩ := fun {ρ σ h' tk' m' news' φ' QT ET} hsc S' O' ex ht k => by
    refine wpAny_execs_cons (wpAny_noRaise ((s0 250).s1 _ ρ σ ow (by rw [hsc]; exact C₁) S' O' ht (fun ρ' σ' h₂ tk₂ m₂ news₂ φ₂ p5 S₂ E₂ O₂ hsc' => ?_) (fun _ _ x => x.elim) PassesOwn.never))
    obtain ⟨v, hv, p⟩ := oP_e p5.2
    obtain ⟨w', hw, p6⟩ := oP_e p
    obtain ⟨u, hu, ru⟩ := (mat_of (ps := [("told", v)]) rfl C₁ O₂ (fun p hp => by rw [List.mem_singleton.mp hp]; exact hv) (fun p hp => by rw [List.mem_singleton.mp hp]; kernel_rfl)) _ (.head _)
    exact wpAny_execs_nil (k _ (fin .refl C₁ S₂.drop (ex.trans E₂).nil ((mat_of rfl C₁ O₂ p5.1 hl5).nil hd5) hu (frz_VR S₂ 8 ru hw (ifB_isD p6).1) (ifB_isD p6).2))
  refine wpAny_execs_cons ((s0 250).s1 _ _ [] ow C₁ S₁ O₁ ht (fun ρ σ h₂ tk₂ m₂ news₂ φ₂ p S₂ E₂ O₂ hsc2 => ?_) (fun _ _ x => x.elim) po)
  refine wpAny_execs_cons ((s0 250).s1 _ _ _ ow (by rw [hsc2]; exact C₁) S₂ O₂ p (fun ρ₃ σ₃ h₃ tk₃ m₃ news₃ φ₃ p S₃ E₃ O₃ hsc => ?_) (fun _ _ x => x.elim) po)
  have hsc3 : ρ₃.sc = (fx (st 24)).sc := hsc.trans hsc2
  obtain ⟨p5, p⟩ := p
  have ex3 : Ext H news [] news₃ φ₃ := E₂.trans E₃
  have C₃ : CxZ (Z0 w base [] g d os T0 [] H) A' env' env' [top] g₀ L' ρ₃.sc 250 := by rw [hsc3]; exact C₁
  have M₃ : MAt (Z0 w base [] g d os T0 [] H) news₃ φ₃ (l5 l rows ports br) m₃ := mat_of rfl C₁ O₃ p5 hl5
  have caught : ∀ {m₄ : Str -> Option Value} {news₄ : Led} {φ₄ : List Addr} {ws : List V} {σ' : Hp} {e : Value} {s' : Shared} {fz' : Led}, MAt (Z0 w base [] g d os T0 [] H) news₄ φ₄ (l5 l rows ports br) m₄ -> Ext H news [] news₄ φ₄ -> tX l rows ports br ws σ' ->
      (∃ o, (L', o) ∈ fz' /\ LCg.NsObj o m₄) -> (∀ b ∈ [top].filterMap (·.frame), ∃ o, (b, o) ∈ fz' /\ g₀.get? b = some o) -> RZF w (hideAll g₀ ([top].filterMap (·.frame))) fz' g d os [] H (env' :: [top]) news₄ φ₄ ws e s' ->
      wpAny (model pw_sj0033_01 w) A' (noteFrame e env') (fun _ s₂ => wpAny (model pw_sj0033_01 w) A' (setFlight e none) (fun _ s₃ =>
        wpAny (model pw_sj0033_01 w) A' (handleBy e env' (tH (nthS rB 2))) (fun f s' => match f with | .next => wpAny (model pw_sj0033_01 w) A' (execs (dropS rB 3) env') Q' E' s' | f => Q' f s') E' s₃) E' s₂) E' s' := fun {m₄ news₄ φ₄ ws σ' e s' fz'} M₄ ex₄ hx hL hfo z => by
    obtain ⟨a, b, c, rfl, hx⟩ := hx
    refine catch_told (w := w) (base := base) (g := g) (d := d) (os := os) (pin := []) (H := H) (n := 250) (sc := (fx (st 24)).sc) C₁ ow.2 XB TB hab (by kernel_rfl) (by kernel_rfl) (by kernel_rfl) (by kernel_rfl) (by decide +kernel) hL hfo z fun h' tk' g₁ news' φ' u m' KT Cx' S' ex' ru hm hu => ?_
    have hfr : [top].filterMap (·.frame) = [L] := by simp [C.tf]
    rw [hfr] at KT
    refine fin KT Cx' S' (ex₄.trans ex').nil (((M₄.mono ex').nil hd5).turn fun p hp => hm _ (hne p hp).1 (hne p hp).2) hu ru hx
  refine wpAny_execs_cons (wpAny_Try_except ?_)
  refine wpAny_execs_cons (wpAny_If ((s0 250).b _ ρ₃ σ₃ (fun t σ' => t = br /\ σ₃ = σ') NoX C₃ S₃ O₃ ?_ (fun t σ₄ pt h₄ tk₄ news₄ φ₄ S₄ E₄ => ?_) (fun _ _ x => x.elim)))
  · have hbr := p5 ("bracketed", .bool br) (by simp [l5])
    have e := evB_name 248 (Str.ofString "bracketed") ⟨273, 11, 273, 20⟩ ρ₃ σ₃ (fun t σ' => t = br /\ σ₃ = σ') NoX
    simp only [w_] at hbr
    rw [hbr] at e
    exact e ▸ ⟨rfl, rfl⟩
  obtain ⟨pt, rfl⟩ := pt
  have ex4 := ex3.trans E₄
  have O₄ := O₃.mono E₄
  have M₄ := M₃.mono E₄
  have hrest : ∀ s, wpAny (model pw_sj0033_01 w) A' (execs (dropS rB 3) env') Q' E' s -> wpAny (model pw_sj0033_01 w) A' (execs (dropS rB 3) env') Q' E' s := fun _ x => x
  cases t with
  | true =>
    simp only [if_true]
    replace p := p.1 pt.symm
    obtain ⟨cu, hcu, p⟩ := oP_e p
    refine wpAny_execs_cons (Assign_any (by rfl) (by rfl) (by rfl) (Call_ (name_ref (Z := Z0 w base [] g d os T0 [] H) (fv := .ref 28) C₃ S₄ (by rw [hsc3]; kernel_rfl) (by kernel_rfl) ?_) (by rfl)))
    refine callWith_K (K := K0 w.params) C₃.X (by kernel_rfl) (spliced_more (name_at (Z := Z0 w base [] g d os T0 [] H) C₃ S₄ O₄ hcu fun u ru => spliced_none ⟨C₃.X.keeps S₄.F.keep, ?_⟩) (by rfl)) (by rfl) (by rfl)
    refine try_call (n := 239) (fo_28 _ w w.params) (C₃.down (by decide)) S₄ (.cons ru .nil) p (fun v σ₅ pv u₅ h₅ tk₅ news₅ φ₅ S₅ E₅ r₅ => ?_) (fun ws σ' hx e s' fz' hL hfo z => caught M₄ ex4 hx hL hfo z)
    refine wpAny_noRaise ((s0 250).a _ v ρ₃ σ₅ _ NoX ow C₃ S₅ (O₄.mono E₅) r₅ pv (fun ρ₆ σ₆ p₆ h₆ tk₆ m₆ news₆ φ₆ S₆ E₆ O₆ hsc₆ => ?_) (fun _ _ x => x.elim))
    refine wpAny_execs_nil ?_
    exact told (hsc₆.trans hsc3) S₆ O₆ ((ex4.trans E₅).trans E₆) p₆ fun s q => wpAny_execs_nil q
  | false =>
    simp only [Bool.false_eq_true, if_false]
    replace p := p.2 pt.symm
    refine wpAny_execs_cons (wpAny_noRaise ((s0 250).s1 _ ρ₃ _ ow C₃ S₄ O₄ p (fun ρ₅ σ₅ h₅ tk₅ m₅ news₅ φ₅ p S₅ E₅ O₅ hsc => ?_) (fun _ _ x => x.elim) PassesOwn.never))
    have hsc5 : ρ₅.sc = (fx (st 24)).sc := hsc.trans hsc3
    have C₅ : CxZ (Z0 w base [] g d os T0 [] H) A' env' env' [top] g₀ L' ρ₅.sc 250 := by rw [hsc5]; exact C₁
    obtain ⟨p5', p⟩ := p
    have ex5 := ex4.trans E₅
    have M₅ : MAt (Z0 w base [] g d os T0 [] H) news₅ φ₅ (l5 l rows ports br) m₅ := mat_of rfl C₁ O₅ p5' hl5
    obtain ⟨cu, hcu, p⟩ := oP_e p
    have hpo := p5' ("ports", .vls ports) (by simp [l5])
    refine wpAny_execs_cons (Assign_any (by rfl) (by rfl) (by rfl) (Call_ (name_ref (Z := Z0 w base [] g d os T0 [] H) (fv := .ref 35) C₅ S₅ (by rw [hsc5]; kernel_rfl) (by kernel_rfl) ?_) (by rfl)))
    refine callWith_K (K := K0 w.params) C₅.X (by kernel_rfl) (spliced_more (name_at (Z := Z0 w base [] g d os T0 [] H) C₅ S₅ O₅ hcu fun u ru => spliced_more (name_at (Z := Z0 w base [] g d os T0 [] H) C₅ S₅ O₅ hpo fun u2 ru2 => spliced_none ⟨C₅.X.keeps S₅.F.keep, ?_⟩) (by rfl)) (by rfl)) (by rfl) (by rfl)
    refine try_call (n := 239) (fo_35 _ w w.params) (C₅.down (by decide)) S₅ (.cons ru (.cons ru2 .nil)) p (fun v σ₆ pv u₆ h₆ tk₆ news₆ φ₆ S₆ E₆ r₆ => ?_) (fun ws σ' hx e s' fz' hL hfo z => caught M₅ ex5 hx hL hfo z)
    refine wpAny_noRaise ((s0 250).a _ v ρ₅ σ₆ _ NoX ow C₅ S₆ (O₅.mono E₆) r₆ pv (fun ρ₇ σ₇ p₇ h₇ tk₇ m₇ news₇ φ₇ S₇ E₇ O₇ hsc₇ => ?_) (fun _ _ x => x.elim))
    refine wpAny_execs_nil ?_
    exact told (hsc₇.trans hsc5) S₇ O₇ ((ex5.trans E₆).trans E₇) p₇ fun s q => wpAny_execs_nil q
end
end Mine
end

section
open PySem PySem.W PySem.Calls PyProof.Rows
namespace Mine
noncomputable def LT : Tab := T1 [([95, 108, 97, 119, 95, 112, 108, 97, 99, 101, 100], tPlaced)] T0.fns
noncomputable def lB : List Stmt := (fx (st 25)).body
noncomputable def fB : Stmt -> List Stmt
  | .For _ _ b _ _ => b
  | _ => []
noncomputable def lF : List Stmt := fB (nthS lB 5)
noncomputable def nA : Stmt -> List PySem.Expr
  | .If (.UnaryOp .Not (.Call _ es _ _) _) _ _ _ => es
  | _ => []
noncomputable def lρ : Mine.Env := ⟨(fx (st 25)).nm, (fx (st 25)).sc, [w_ "moves", w_ "feed"], [.dct mvN, .feed]⟩
noncomputable def HasR (ρ : Mine.Env) : Prop := look ρ.ks ρ.vs (w_ "moves") = some (.dct mvN) /\ look ρ.ks ρ.vs (w_ "feed") = some .feed
noncomputable def nx (K : Mine.Env -> Prop) : Fl -> Mine.Env -> Hp -> Prop := nxP fun ρ σ => nilP σ (K ρ)
structure EvS (s : Stmt) (ρ : Mine.Env) (K : Mine.Env -> Prop) : Prop where
  out : evS LT 340 s ρ [] (nx K) NoX
structure TArgs (es : List PySem.Expr) (ρ : Mine.Env) (K : Prop) : Prop where
  out : evEs LT 340 es ρ [] (fun vs σ => σ = [] /\ ∃ l rows ports br, vs = [.dct l, .vls rows, .vls ports, .bool br] /\ tRight l rows ports br /\ K) NoX
noncomputable def tFixed : Prop := EvS (nthS lB 2) lρ fun ρ1 => EvS (nthS lB 3) ρ1 fun ρ2 => TArgs (nA (nthS lB 4)) ρ2 (HasR ρ2)
noncomputable def tTurn : Prop := EvS (nthS lF 0) lρ fun ρ1 => EvS (nthS lF 1) ρ1 fun ρ2 => TArgs (nA (nthS lF 2)) ρ2
  (EvS (nthS lF 3) ρ2 fun ρ3 => TArgs (nA (nthS lF 4)) ρ3 (HasR ρ3))
set_option tactic.hygienic false
theorem dedup {h₀ h : Heap} {L : Addr} : ∀ {led : Led}, News h₀ L h led -> ∃ led' : Led, (led'.map (·.1)).Nodup /\ ∀ p, p ∈ led' ↔ p ∈ led
  | [], _ => ⟨[], List.nodup_nil, fun _ => Iff.rfl⟩
  | p :: r, N => by
    obtain ⟨r', nd, hr⟩ := dedup (led := r) fun q hq => N q (.tail _ hq)
    by_cases hp : p ∈ r'
    · refine ⟨r', nd, fun q => ⟨fun hq => .tail _ ((hr q).mp hq), fun hq => ?_⟩⟩
      rcases List.mem_cons.mp hq with rfl | hq
      · exact hp
      · exact (hr q).mpr hq
    · refine ⟨p :: r', ?_, fun q => ?_⟩
      · rw [List.map_cons, List.nodup_cons]
        refine ⟨fun hm => ?_, nd⟩
        obtain ⟨q, hq, e⟩ := List.mem_map.mp hm
        have h1 := (N q (.tail _ ((hr q).mp hq))).1
        have h2 := (N p (.head _)).1
        rw [e, h2] at h1
        have : q = p := Prod.ext e (Option.some.inj h1).symm
        exact hp (this ▸ hq)
      · simp only [List.mem_cons, hr]
theorem TupTab.keepTD {prog : Program} {w : World} {news news' : Led} {a : Addr} {D : List (PyData × PyData)} (T : TupTab (PySem.strKind prog w) PyData.str news a D) (hk : ∀ p ∈ news, (p.2.cls = .type "dict" \/ p.2.cls = .type "tuple") -> p ∈ news') : TupTab (PySem.strKind prog w) PyData.str news' a D := by
  obtain ⟨lo, o, es, ep, xs, hm, hc, hd, he, hn, hx, hf⟩ := T
  refine ⟨lo, o, es, ep, xs, hk _ hm (.inl hc.1), hc, hd, he, hn, fun x hx' => ?_, hf⟩
  obtain ⟨ok, hmk, t⟩ := hx x hx'
  exact ⟨ok, hk _ hmk (.inr t.1), t⟩
theorem LO.sub {Z : Wd} {env : PySem.Env} {L : Addr} {news : Led} {φ : List Addr} {m : Str -> Option Value} {ρ ρ' : Mine.Env} (O : LO Z env L news φ m ρ) (hl : ρ'.ks.length = ρ'.vs.length) (h : ∀ x v, look ρ'.ks ρ'.vs x = some v -> look ρ.ks ρ.vs x = some v) : LO Z env L news φ m ρ' :=
  ⟨fun x v e => O.at_ x v (h _ _ e), hl⟩
set_option tactic.hygienic true
theorem hasR_sub {ρ : Mine.Env} (h : HasR ρ) : ∀ x v, look lρ.ks lρ.vs x = some v -> look ρ.ks ρ.vs x = some v := by
  intro x v e
  simp only [lρ, look] at e
  split at e
  · rename_i q; rw [<- leq_iff.mp q]; cases e; exact h.1
  · split at e
    · rename_i q; rw [<- leq_iff.mp q]; cases e; exact h.2
    · cases e
section
variable {Z : Wd} {n : Nat}
set_option tactic.hygienic false
theorem ref_raw {A : Around} {env top : PySem.Env} {outer : List PySem.Env} {h₀ : Heap} {L : Addr} {sc : List (Str × NameKind)} {x : Str} {np : Pos} {h : Heap} {m : Str -> Option Value} {tk : Nat} {Q E : Value -> Shared -> Prop} {fv : Value}
    (C : CxZ Z A env top outer h₀ L sc n) (F : Fr h₀ L h m) (hg : isGlb sc x.cps.toList = true) (e : nsIn Z.K mainGlobals x = some (some fv)) (hq : Q fv ⟨h, Z.g, Z.d, tk, Z.os⟩) :
    wpAny (model Z.prog Z.w) A (eval (.Name x np) env) Q E ⟨h, Z.g, Z.d, tk, Z.os⟩ := by
  obtain ⟨mean, mg, mb, T⟩ := C.T
  obtain ⟨g1, g2⟩ := C.env_.glOk hg
  have T' := topRead_of T
  exact Name_function_global C.env_.kind g1 (loadGlobal_global (s := ⟨h, Z.g, Z.d, tk, Z.os⟩) (by rw [C.env_.glob]; exact T'.g.keeps F.keep) (mg_of C.X T'.g e) hq) g2
end
section
variable {w : World} {base : Heap} {g : Array GenState} {d : Drawn} {os : OsState} {H : List Addr}
theorem soundL (n : Nat) (H : List Addr) : OK (Z0 w base [] g d os LT [] H) n :=
  sound1 (fun _ _ h => h) (fun f t h => by
    have := find_mem h
    simp only [List.mem_cons, List.not_mem_nil, or_false, Prod.mk.injEq] at this
    obtain ⟨rfl, rfl⟩ := this
    exact placed_ok) n [] H
theorem if_right {A : Around} {env top : PySem.Env} {L : Addr} {h : Heap} {m : Str -> Option Value} {news : Led} {tk : Nat} {ρ : Mine.Env} {e : PySem.Expr} {es : List PySem.Expr} {np cp p pos : Pos} {body : List Stmt} {K : Prop} {Q : PySem.Flow -> Shared -> Prop} {E : Value -> Shared -> Prop}
    (C : CxZ (Z0 w base [] g d os LT [] H) A env top [] base L ρ.sc 340) (XB : (K0 w.params).In base) (TB : ∃ mean mg mb, Top qv (looseW qv ["GateloomError"]) mean mg mb base)
    (S : SimZ (Z0 w base [] g d os LT [] H) base L m h news [] []) (O : LO (Z0 w base [] g d os LT [] H) env L news [] m ρ) (hg : isGlb ρ.sc (w_ "_law_right") = true) (hs : noStar (e :: es) = true) (ht : TArgs (e :: es) ρ K)
    (hQ : K -> ∀ h' tk' news', SimZ (Z0 w base [] g d os LT [] H) base L m h' news' [] [] -> Ext H news [] news' [] -> Q .next ⟨h', g, d, tk', os⟩) :
    wpAny (model pw_sj0033_01 w) A (exec (.If (.UnaryOp .Not (.Call (.Name "_law_right" np) (e :: es) [] cp) p) body [] pos) env) Q E ⟨h, g, d, tk, os⟩ := by
  refine wpAny_If (isTrue_not (isTrue_any ?_ rfl (by intro l ops rs p q; cases q)))
  refine Call_ (ref_raw (Z := Z0 w base [] g d os LT [] H) (fv := .ref 302) C S.F hg (by kernel_rfl) ?_) (by rfl)
  obtain ⟨h1, h2⟩ := noStar_cons hs
  refine callWith_K (K := K0 w.params) C.X (by kernel_rfl) ((soundL 340 H).es (e :: es) _ ρ [] _ NoX C S O hs ht.out (fun xs σ₁ pp vs h₁ tk₁ news₁ φ₁ S₁ E₁ r₁ => ?_) (fun _ _ x => x.elim)) (starEach_ok h1) (noStar_any h2)
  refine ⟨C.X.keeps S₁.F.keep, ?_⟩
  obtain ⟨rfl, l, rows, ports, br, rfl, pt, pk⟩ := pp
  obtain rfl : φ₁ = [] := List.length_eq_zero_iff.mp S₁.φl
  refine right_sound (C.down (by decide)) XB TB S₁ r₁ pt fun h₂ tk₂ news₂ S₂ E₂ => ⟨true, rfl, ?_⟩
  exact wpAny_execs_nil (hQ pk _ _ _ S₂ (E₁.trans E₂))
theorem stmt_ok {A : Around} {env : PySem.Env} {L : Addr} (C : CxZ (Z0 w base [] g d os LT [] H) A env env [] base L (fx (st 25)).sc 340) (ow : Own env env L) {s : Stmt} {ρ : Mine.Env} {h : Heap} {m : Str -> Option Value} {news : Led} {tk : Nat} {K : Mine.Env -> Prop} {Q : PySem.Flow -> Shared -> Prop} {E : Value -> Shared -> Prop} (hsc : ρ.sc = (fx (st 25)).sc) (S : SimZ (Z0 w base [] g d os LT [] H) base L m h news [] []) (O : LO (Z0 w base [] g d os LT [] H) env L news [] m ρ) (ht : EvS s ρ K)
      (hq : ∀ ρ' h' tk' m' news', K ρ' -> ρ'.sc = (fx (st 25)).sc -> SimZ (Z0 w base [] g d os LT [] H) base L m' h' news' [] [] -> Ext H news [] news' [] -> LO (Z0 w base [] g d os LT [] H) env L news' [] m' ρ' -> Q .next ⟨h', g, d, tk', os⟩) :
      wpAny (model pw_sj0033_01 w) A (exec s env) Q E ⟨h, g, d, tk, os⟩ := by
  refine wpAny_noRaise ((soundL 340 H).s1 s ρ [] ow (by rw [hsc]; exact C) S O ht.out (fun ρ' σ' h₂ tk₂ m₂ news₂ φ₂ p S₂ E₂ O₂ hsc' => ?_) (fun _ _ x => x.elim) PassesOwn.never)
  obtain ⟨rfl, p⟩ := nilP_e p
  obtain rfl : φ₂ = [] := List.length_eq_zero_iff.mp S₂.φl
  exact hq _ _ _ _ _ p (hsc'.trans hsc) S₂ E₂ O₂
theorem turn_ok {A : Around} {env : PySem.Env} {L : Addr} {h : Heap} {m : Str -> Option Value} {news : Led} {tk : Nat} {Q : PySem.Flow -> Shared -> Prop} {E : Value -> Shared -> Prop}
    (C : CxZ (Z0 w base [] g d os LT [] H) A env env [] base L (fx (st 25)).sc 340) (ow : Own env env L) (XB : (K0 w.params).In base) (TB : ∃ mean mg mb, Top qv (looseW qv ["GateloomError"]) mean mg mb base)
    (S : SimZ (Z0 w base [] g d os LT [] H) base L m h news [] []) (O : LO (Z0 w base [] g d os LT [] H) env L news [] m lρ) (ht : tTurn)
    (hQ : ∀ h' tk' m' news', SimZ (Z0 w base [] g d os LT [] H) base L m' h' news' [] [] -> Ext H news [] news' [] -> LO (Z0 w base [] g d os LT [] H) env L news' [] m' lρ -> Q .next ⟨h', g, d, tk', os⟩) :
    wpAny (model pw_sj0033_01 w) A (execs lF env) Q E ⟨h, g, d, tk, os⟩ := by
  have hg : isGlb (fx (st 25)).sc (w_ "_law_right") = true := by kernel_rfl
  refine wpAny_execs_cons (stmt_ok C ow rfl S O ht fun ρ₁ h₁ tk₁ m₁ news₁ k₁ sc₁ S₁ E₁ O₁ => ?_)
  refine wpAny_execs_cons (stmt_ok C ow sc₁ S₁ O₁ k₁ fun ρ₂ h₂ tk₂ m₂ news₂ k₂ sc₂ S₂ E₂ O₂ => ?_)
  refine wpAny_execs_cons (if_right (by rw [sc₂]; exact C) XB TB S₂ O₂ (by rw [sc₂]; exact hg) (by rfl) k₂ fun k₃ h₃ tk₃ news₃ S₃ E₃ => ?_)
  refine wpAny_execs_cons (stmt_ok C ow sc₂ S₃ (O₂.mono E₃) k₃ fun ρ₄ h₄ tk₄ m₄ news₄ k₄ sc₄ S₄ E₄ O₄ => ?_)
  refine wpAny_execs_cons (if_right (by rw [sc₄]; exact C) XB TB S₄ O₄ (by rw [sc₄]; exact hg) (by rfl) k₄ fun k₅ h₅ tk₅ news₅ S₅ E₅ => ?_)
  exact wpAny_execs_nil (hQ _ _ _ _ S₅ ((((E₁.trans E₂).trans E₃).trans E₄).trans E₅) ((O₄.mono E₅).sub (by rfl) (hasR_sub k₅)))
end
end Mine
end

section
open PySem PySem.W PySem.Calls PyProof.Rows
namespace Mine
noncomputable abbrev lEnv (L fa : Addr) (cd : Value) : PySem.Env := envOfC (Str.ofString "law") (sS (st 25)) L fa cd
noncomputable def fI : Stmt -> PySem.Expr
  | .For _ i _ _ _ => i
  | _ => .Constant .none 0 ⟨0, 0, 0, 0⟩
section
variable {w : World} {base : Heap} {g : Array GenState} {d : Drawn} {os : OsState} {H : List Addr}
set_option tactic.hygienic false
theorem law_cx {fa : Addr} {cd : Value} (B : Below callerA base [] base) (XB : (K0 w.params).In base) (TB : ∃ mean mg mb, Top qv (looseW qv ["GateloomError"]) mean mg mb base) (H : List Addr) :
    CxZ (Z0 w base [] g d os LT [] H) (callerA.deeper (lEnv base.objs.size fa cd)) (lEnv base.objs.size fa cd) (lEnv base.objs.size fa cd) [] base base.objs.size (fx (st 25)).sc 345 :=
  ⟨envX_good (cl := cellsFrom (base.objs.size + 1) (sS (st 25)).names []) (by kernel_rfl) (by kernel_rfl), rfl, by kernel_rfl, ⟨callerA, B⟩, Around.frames_deeper rfl, XB, TB, rfl, (by show (1 + claimMargin) + 1 + 345 < recursionLimit; decide +kernel), (by show (4 + 3) + 4 * 345 + 100 < cLine; decide +kernel), fun p hp => nomatch hp⟩
theorem law_cells {fa : Addr} {cd : Value} {L : Addr} : (lEnv L fa cd).cells = [(Str.ofString "feed", L + 1)] := by rfl
inductive InvL (Z : Wd) (g : Array GenState) (d : Drawn) (os : OsState) (env : PySem.Env) (base : Heap) (L I : Addr) (k : Nat) (s : Shared) : Prop
  | mk (i : Nat) (h : Heap) (tk : Nat) (m : Str -> Option Value) (news : Led) (o : Obj) : s = ⟨h, g, d, tk, os⟩ -> k = 2 - i -> i <= 2 -> SimZ Z base L m h news [] [] -> LO Z env L news [] m lρ -> (I, o) ∈ news ->
    o = { cls := .type "range_iterator", dict := none, data := .fields #[rawInt (0 + (i : Nat) * 1), rawInt ((2 : Int) - (i : Nat)), rawInt 1], slots := #[] } -> InvL Z g d os env base L I k s
set_option tactic.hygienic true
theorem law_walk {fa : Addr} {cd : Value} {s2 s3 : Stmt} {a : Addr} {vs : List Value} {is : List Int} {oc : Obj} {h : Heap} {m : Str -> Option Value} {tk : Nat} {Q : PySem.Flow -> Shared -> Prop} {E : Value -> Shared -> Prop}
    (hfix : EvS s2 lρ fun ρ1 => EvS s3 ρ1 fun ρ2 => TArgs (nA (nthS lB 4)) ρ2 (HasR ρ2)) (hturn : tTurn)
    (B : Below callerA base [] base) (XB : (K0 w.params).In base) (TB : ∃ mean mg mb, Top qv (looseW qv ["GateloomError"]) mean mg mb base)
    (F : Fr base base.objs.size h m) (N : News base base.objs.size h [(base.objs.size + 1, oc)]) (hoc : oc.data = .cell none) (hm : m (Str.ofString "script") = some (.ref a))
    (hls : base.IsList a vs.toArray) (hia : IntsAre vs is) (hvl : vs.length <= 4096)
    (hE : PassesOwn (model pw_sj0033_01 w) (callerA.deeper (lEnv base.objs.size fa cd)) (lEnv base.objs.size fa cd) E)
    (hQ : ∀ h' tk' m', Fr base base.objs.size h' m' -> Q (.ret (.bool true)) ⟨h', g, d, tk', os⟩) :
    wpAny (model pw_sj0033_01 w) (callerA.deeper (lEnv base.objs.size fa cd)) (execs (nthS lB 0 :: nthS lB 1 :: s2 :: s3 :: dropS lB 4) (lEnv base.objs.size fa cd)) Q E ⟨h, g, d, tk, os⟩ := by
  have C0 := law_cx (w := w) (g := g) (d := d) (os := os) (fa := fa) (cd := cd) B XB TB []
  have ow : Own (lEnv base.objs.size fa cd) (lEnv base.objs.size fa cd) base.objs.size := ⟨rfl, rfl⟩
  have hsl : isLoc (fx (st 25)).sc (Str.ofString "script").cps.toList = true := by kernel_rfl
  have hml : isLoc (fx (st 25)).sc (Str.ofString "moves").cps.toList = true := by kernel_rfl
  have htl : isLoc (fx (st 25)).sc (Str.ofString "turn").cps.toList = true := by kernel_rfl
  have hfk : (lEnv base.objs.size fa cd).kindOf (Str.ofString "feed") = some .cell := by kernel_rfl
  refine wpAny_execs_cons (Assign_any (by rfl) (by rfl) (by rfl) (Call_ (ref_raw (Z := Z0 w base [] g d os LT [] []) (fv := .ref 236) C0 F (by kernel_rfl) (by kernel_rfl) ?_) (by rfl)))
  refine callWith_K (K := K0 w.params) C0.X (by kernel_rfl) (spliced_more (name_raw (Z := Z0 w base [] g d os LT [] []) C0 ow F ⟨hm, C0.env_.locOk hsl⟩ (spliced_none ⟨C0.X.keeps F.keep, ?_⟩)) (by rfl)) (by rfl) (by rfl)
  refine feed_sound (T := LT) (pin := []) (H := []) (n := 340) (C0.down (by decide)) F N hls hia hvl fun fd ca t0 y t1 k us js h₁ tk₁ led F₁ N₁ kl nca nfd ij y0 y1 ul => ?_
  have hc := kl _ (.head _)
  refine wpAny_assign_Name (wpAny_storeName_cell (c := base.objs.size + 1) (v₀ := none) (by kernel_rfl) hfk (by rw [law_cells]; rfl) ⟨oc, (N₁ _ (.tail _ (.tail _ hc))).1, hoc⟩ fun h₂ ic sb => ?_)
  obtain ⟨oc₂, hg₂, hd₂⟩ := ic
  have hcm : (base.objs.size + 1, oc) ∈ (fd, listOf #[.ref ca, .int 0 t0, .int y t1] 0) :: (ca, listOf (List.toArray us) k) :: led := .tail _ (.tail _ hc)
  obtain ⟨F₂, N₂⟩ := upd_frame F₁ N₁ hcm (fun b ob hb e => (sb.2 b hb).trans e) hg₂
  have cfd : base.objs.size + 1 < fd := nfd _ (.tail _ hc)
  have cca : base.objs.size + 1 ≠ ca := nca _ hc
  have caf : ca < fd := nfd _ (.head _)
  have m1 := updL_mem (d := base.objs.size + 1) (o := oc₂) (List.Mem.head (a := (fd, listOf #[.ref ca, .int 0 t0, .int y t1] 0)) ((ca, listOf (List.toArray us) k) :: led)) (Nat.ne_of_gt cfd)
  have m2 := updL_mem (d := base.objs.size + 1) (o := oc₂) (List.Mem.tail (fd, listOf #[.ref ca, .int 0 t0, .int y t1] 0) (List.Mem.head (a := (ca, listOf (List.toArray us) k)) led)) (Ne.symm cca)
  have m3 := updL_self (o' := oc₂) hcm
  refine wpAny_execs_cons (Assign_any (by rfl) (by rfl) (by rfl) (Call_ (ref_raw (Z := Z0 w base [] g d os LT [] []) (fv := .ref 283) C0 F₂ (by kernel_rfl) (by kernel_rfl) ?_) (by rfl)))
  refine callWith_K0 (K := K0 w.params) (C0.X.keeps F₂.keep) (by kernel_rfl) ?_
  refine moves_sound (T := LT) (pin := []) (H := []) (n := 340) (C0.down (by decide)) F₂ N₂ fun D h₃ tk₃ led₃ F₃ N₃ kl₃ nD TT => ?_
  refine assign_raw (T := LT) (pin := []) (H := []) C0 ow hml F₃ N₃ fun h₄ tk₄ F₄ N₄ => ?_
  obtain ⟨led₄, nd₄, mem₄⟩ := dedup N₄
  have N₅ : News base base.objs.size h₄ led₄ := fun p hp => N₄ p ((mem₄ p).mp hp)
  have m1' := (mem₄ _).mpr (kl₃ _ m1)
  have m2' := (mem₄ _).mpr (kl₃ _ m2)
  have m3' := (mem₄ _).mpr (kl₃ _ m3)
  have S₅ : SimZ (Z0 w base [] g d os LT [] [fd, ca]) base base.objs.size (fun y => if y = Str.ofString "moves" then some (Value.ref D) else m y) h₄ led₄ [] [] :=
    ⟨F₄, N₅, nd₄, List.nodup_nil, rfl, (fun _ h => nomatch h), (fun i o q => by simp at q), ⟨fd, ca, 0, y, t0, t1, 0, us, js, k, rfl, by
      show [fd, ca].Nodup
      simp [Nat.ne_of_gt caf], (fun p hp => nomatch hp), m1', m2', ij, y0, y1, ul⟩⟩
  have isl : ∀ {p : Addr × Obj}, p ∈ led₄ -> (p.2.cls = .type "dict" \/ p.2.cls = .type "tuple") -> Off [] [fd, ca] p.1 := fun {p} hp hc => by
    refine ⟨(fun q => nomatch q), fun q => ?_⟩
    have h1 := (N₅ p hp).1
    have hl : ∀ {vs : Array Value} {n : Nat}, ¬ ((listOf vs n).cls = .type "dict" \/ (listOf vs n).cls = .type "tuple") := fun {vs n} q => by
      have : (listOf vs n).cls = .type "list" := rfl
      rw [this] at q
      rcases q with q | q <;> simp at q
    rcases List.mem_cons.mp q with e | q
    · rw [e, (N₅ _ m1').1] at h1
      exact hl ((Option.some.inj h1) ▸ hc)
    · rw [List.mem_singleton.mp q, (N₅ _ m2').1] at h1
      exact hl ((Option.some.inj h1) ▸ hc)
  have OL : LO (Z0 w base [] g d os LT [] [fd, ca]) (lEnv base.objs.size fa cd) base.objs.size led₄ [] (fun y => if y = Str.ofString "moves" then some (Value.ref D) else m y) lρ := by
    classical
    refine ⟨fun x v e => ?_, rfl⟩
    simp only [lρ, look] at e
    split at e
    · rename_i q
      have hx : Str.ofString "moves" = x := str_ext (leq_iff.mp q)
      subst hx
      cases e
      refine ⟨(C0.env_.locOk hml).2, .loc (C0.env_.locOk hml).1 rfl (if_pos rfl) (.dct (nw := led₄.filter fun p => decide (p.2.cls = .type "dict" \/ p.2.cls = .type "tuple")) (fun p hp => ?_) ⟨?_, ?_, fun p hp => ?_⟩)⟩
      · obtain ⟨h1, h2⟩ := List.mem_filter.mp hp
        exact ⟨h1, isl h1 (of_decide_eq_true h2)⟩
      · exact Mine.TupTab.keepTD TT fun p hp hc => List.mem_filter.mpr ⟨(mem₄ p).mpr hp, decide_eq_true hc⟩
      · have : ((mvN.all fun x => okS x.2.2) = true) := by kernel_rfl
        exact fun x hx => List.all_eq_true.mp this x hx
      · exact of_decide_eq_true (List.mem_filter.mp hp).2
    · split at e
      · rename_i q
        have hx : Str.ofString "feed" = x := str_ext (leq_iff.mp q)
        subst hx
        cases e
        refine ⟨by decide +kernel, .cel (.inl hfk) (by decide +kernel) (by rw [law_cells]; rfl) m3' ⟨(fun q => nomatch q), ?_⟩ hd₂ (.feed rfl)⟩
        show base.objs.size + 1 ∉ [fd, ca]
        simp [Nat.ne_of_lt cfd, cca]
      · cases e
  have C := law_cx (w := w) (g := g) (d := d) (os := os) (fa := fa) (cd := cd) B XB TB [fd, ca]
  have Cn : ∀ {ρ : Mine.Env}, ρ.sc = (fx (st 25)).sc -> CxZ (Z0 w base [] g d os LT [] [fd, ca]) (callerA.deeper (lEnv base.objs.size fa cd)) (lEnv base.objs.size fa cd) (lEnv base.objs.size fa cd) [] base base.objs.size ρ.sc 340 := fun e => by rw [e]; exact C.down (by decide)
  have C4 := C.down (k := 340) (by decide)
  refine wpAny_execs_cons (stmt_ok C4 ow rfl S₅ OL hfix fun ρ₁ h₁ tk₁ m₁ news₁ k₁ sc₁ S₁ E₁ O₁ => ?_)
  refine wpAny_execs_cons (stmt_ok C4 ow sc₁ S₁ O₁ k₁ fun ρ₂ h₂ tk₂ m₂ news₂ k₂ sc₂ S₂ E₂ O₂ => ?_)
  have hgr : isGlb (fx (st 25)).sc (w_ "_law_right") = true := by kernel_rfl
  refine wpAny_execs_cons (if_right (ρ := ρ₂) (Cn sc₂) XB TB S₂ O₂ (by rw [sc₂]; exact hgr) (by rfl) k₂ fun k₃ h₃ tk₃ news₃ S₃ E₃ => ?_)
  have O₃ := (O₂.mono E₃).sub (ρ' := lρ) (by rfl) (hasR_sub k₃)
  have hr : ∀ (P : V -> Hp -> Prop), P (.rng 0 2) [] -> evE LT 340 (fI (nthS lB 5)) lρ [] P NoX := fun P hP => by
    have : evE LT 340 (fI (nthS lB 5)) lρ [] P NoX = P (.rng 0 2) [] := by kernel_rfl
    rw [this]; exact hP
  refine wpAny_execs_cons (wpAny_For ((soundL 340 [fd, ca]).e (fI (nthS lB 5)) lρ [] (fun v σ => v = .rng 0 2 /\ σ = []) NoX (Cn rfl) S₃ O₃ (hr _ ⟨rfl, rfl⟩) (fun v σ₁ p u h₄ tk₄ news₄ φ₄ S₄ E₄ r₄ => ?_) (fun _ _ x => x.elim)) (fun x => by rfl))
  obtain ⟨rfl, rfl⟩ := p
  have hφ : φ₄ = [] := List.length_eq_zero_iff.mp (by rw [S₄.φl]; rfl)
  subst hφ
  cases r₄ with | rng mm off =>
  refine wpAny_pyIter_range (s := ⟨h₄, g, d, tk₄, os⟩) (S₄.N.get mm) (range_small 0 2 (by decide) (by decide)) ?_
  obtain ⟨S₆, E₆, off₆⟩ := push_it S₄ { cls := .type "range_iterator", data := .fields #[rawInt 0, rawInt (Builtin.Range.rangeSize 0 2 1), rawInt 1] } rfl
  have O₆ := (O₃.mono E₄).mono E₆
  have T := turns_range (Z := Z0 w base [] g d os LT [] [fd, ca]) C.hd h₄.objs.size 0 2
  obtain ⟨I, hI⟩ : ∃ I, I = h₄.objs.size := ⟨_, rfl⟩
  rw [<- hI] at T off₆ S₆ O₆
  have swapped : ∀ {h h' : Heap} {m : Str -> Option Value} {news : Led} {o o' : Obj} {i : Nat} {ρ : Mine.Env}, SimZ (Z0 w base [] g d os LT [] [fd, ca]) base base.objs.size m h news [] [] -> LO (Z0 w base [] g d os LT [] [fd, ca]) (lEnv base.objs.size fa cd) base.objs.size news [] m ρ -> (I, o) ∈ news ->
      o = { cls := .type "range_iterator", dict := none, data := .fields #[rawInt (0 + (i : Nat) * 1), rawInt ((2 : Int) - (i : Nat)), rawInt 1], slots := #[] } -> (∀ b ob, b ≠ I -> h.get? b = some ob -> h'.get? b = some ob) -> h'.get? I = some o' ->
      SimZ (Z0 w base [] g d os LT [] [fd, ca]) base base.objs.size m h' (updL I o' news) [] [] /\ LO (Z0 w base [] g d os LT [] [fd, ca]) (lEnv base.objs.size fa cd) base.objs.size (updL I o' news) [] m ρ /\ (I, o') ∈ updL I o' news := fun {h h' m news o o' i ρ} S O hm st hk ho =>
    ⟨S.swap hm off₆ (T.it i _ st) hk ho, O.keep (swap_keep S.nd hm (T.it i _ st)), updL_self hm⟩
  rw [<- hI]
  refine forTurns (InvL (Z0 w base [] g d os LT [] [fd, ca]) g d os (lEnv base.objs.size fa cd) base base.objs.size I) (fun kk s hI' => ?_) 2 ⟨0, _, tk₄, _, _, _, rfl, rfl, Nat.zero_le _, S₆, O₆, by rw [hI]; exact .head _, by kernel_rfl⟩
  obtain ⟨i, h, tk, m, news, o, rfl, rfl, hi, S, O, hm, st⟩ := hI'
  by_cases hlt : i < 2
  · refine T.item (s := ⟨h, g, d, tk, os⟩) i o hlt trivial (S.N.get hm) st fun v h' tk' o' hv hk ho st' => ?_
    obtain ⟨S', O', hm'⟩ := swapped S O hm st hk ho
    refine T.own (s := ⟨h', g, d, tk', os⟩) (i + 1) i o' _ v hv ho st' ?_
    obtain ⟨t', rfl⟩ := hv
    refine assign_raw (T := LT) (pin := []) (H := [fd, ca]) C ow htl S'.F S'.N fun h₈ tk₈ F₈ N₈ => ?_
    have S₈ := S'.frame F₈ N₈
    have O₈ := (O'.put (x := Str.ofString "turn") (v := .int (0 + (i : Nat) * 1)) (u := .int (0 + (i : Nat) * 1) t') (C.env_.locOk htl).2 (C.env_.locOk htl).1 rfl (.int _ _)).sub (ρ' := lρ) (by rfl) (hasR_sub ⟨by rfl, by rfl⟩)
    · refine turn_ok C4 ow XB TB S₈ O₈ hturn fun h₉ tk₉ m₉ news₉ S₉ E₉ O₉ => ?_
      exact ⟨2 - (i + 1), by omega, i + 1, h₉, tk₉, m₉, news₉, o', rfl, rfl, hlt, S₉, O₉, (E₉.off hm' off₆).1, st'⟩
  · have hin : i = 2 := by omega
    subst hin
    refine T.done (s := ⟨h, g, d, tk, os⟩) o trivial (S.N.get hm) st fun h' tk' o' hk ho => ?_
    obtain ⟨S', O', hm'⟩ := swapped S O hm st hk ho
    exact wpAny_execs_nil (wpAny_execs_cons (wpAny_Return_some (wpAny_Constant_bool (hQ _ _ _ S'.F))))
end
end Mine
end

section
open PySem PySem.W PySem.Calls PyProof.Rows
namespace Mine
inductive Tk where
  | kout
  | kreg
  | kinp
  | ktab
  | kini
  | oeq
  | ocom
  | osem
  | obrk
  | ia
  | ib
  | ic
  | iq
  | s0
  | s1
  | s2
  | s3
  | s4
  | s5
  | s6
  | o0
  | o1
  | o2
  | o3
  | o4
  | st
  | eof
noncomputable def kd : Tk -> N
  | .kout => [107, 101, 121]
  | .kreg => [107, 101, 121]
  | .kinp => [107, 101, 121]
  | .ktab => [107, 101, 121]
  | .kini => [107, 101, 121]
  | .oeq => [111, 112]
  | .ocom => [111, 112]
  | .osem => [111, 112]
  | .obrk => [111, 112]
  | .ia => [105, 100]
  | .ib => [105, 100]
  | .ic => [105, 100]
  | .iq => [105, 100]
  | .s0 => [110, 117, 109]
  | .s1 => [110, 117, 109]
  | .s2 => [110, 117, 109]
  | .s3 => [110, 117, 109]
  | .s4 => [110, 117, 109]
  | .s5 => [110, 117, 109]
  | .s6 => [110, 117, 109]
  | .o0 => [110, 117, 109]
  | .o1 => [110, 117, 109]
  | .o2 => [110, 117, 109]
  | .o3 => [110, 117, 109]
  | .o4 => [110, 117, 109]
  | .st => [115, 116, 114]
  | .eof => [101, 111, 102]
noncomputable def vl : Tk -> V
  | .kout => .str [111, 117, 116, 112, 117, 116]
  | .kreg => .str [114, 101, 103]
  | .kinp => .str [105, 110, 112, 117, 116]
  | .ktab => .str [116, 97, 98, 108, 101]
  | .kini => .str [105, 110, 105, 116, 105, 97, 108]
  | .oeq => .str [61]
  | .ocom => .str [44]
  | .osem => .str [59]
  | .obrk => .str [41]
  | .ia => .str [97]
  | .ib => .str [98]
  | .ic => .str [99]
  | .iq => .str [113]
  | .s0 => .tup [.str [], .str [], .bool true, .str [49]]
  | .s1 => .tup [.str [49], .str [98], .bool false, .str [48]]
  | .s2 => .tup [.str [49], .str [98], .bool true, .str [120]]
  | .s3 => .tup [.str [], .str [98], .bool false, .str [49]]
  | .s4 => .tup [.str [], .str [], .bool true, .str [48]]
  | .s5 => .tup [.str [49], .str [98], .bool false, .str [120]]
  | .s6 => .tup [.str [49], .str [98], .bool false, .str [49]]
  | .o0 => .tup [.str [50], .str [98], .bool false, .str [48]]
  | .o1 => .tup [.str [49], .str [104], .bool false, .str [49]]
  | .o2 => .tup [.str [49], .str [98], .bool false, .str [122]]
  | .o3 => .tup [.str [], .str [], .bool true, .str [50]]
  | .o4 => .tup [.str [], .str [98], .bool false, .str [48, 49]]
  | .st => .str [113]
  | .eof => .str []
noncomputable def prV (t : Tk) : V := .tup [.str (kd t), vl t]
noncomputable def plV (p : Tk × Int) : V := .tup [.str (kd p.1), vl p.1, .int p.2]
noncomputable def tokV (p : Tk × Int) : V := .ins n_Token [n_kind, n_value, n_at] [.str (kd p.1), vl p.1, .int p.2]
noncomputable abbrev nCur : N := [67, 117, 114, 115, 111, 114]
noncomputable abbrev cur : V := .obj nCur 1
noncomputable def curKs : List N := [[115, 111, 117, 114, 99, 101], [97, 104, 101, 97, 100], [104, 97, 115, 104, 101, 100], [116, 111, 107, 101, 110], [97, 116]]
noncomputable def CSt (pre : List V) (rest : List (Tk × Int)) (p : Tk × Int) (ex : Hp) : Hp :=
  .row pre (rest.map tokV) (.bool false) :: .inst curKs [.obj n_TokenRow 0, .vls [], .bool false, tokV p, .int p.2] :: ex
noncomputable def adv (pre : List V) (rest : List (Tk × Int)) (ex : Hp) : Hp := match rest with
  | [] => CSt pre [] (.eof, -1) ex
  | p :: r => CSt (pre ++ [tokV p]) r p ex
noncomputable def wB : Stmt -> List Stmt
  | .While _ b _ _ => b
  | _ => []
noncomputable def wC : Stmt -> PySem.Expr
  | .While c _ _ _ => c
  | _ => .Constant .none 0 ⟨0, 0, 0, 0⟩
noncomputable def pB : List Stmt := (fx (st 3)).body
noncomputable def aB : List Stmt := (fx (st 2)).body
noncomputable abbrev q_unex : N := [117, 110, 101, 120, 112, 101, 99, 116, 101, 100, 95, 116, 111, 107, 101, 110]
noncomputable abbrev q_prim : N := [112, 114, 105, 109, 105, 116, 105, 118, 101, 95, 112, 111, 114, 116, 115]
noncomputable abbrev q_init : N := [112, 114, 105, 109, 105, 116, 105, 118, 101, 95, 105, 110, 105, 116, 105, 97, 108]
noncomputable abbrev q_name : N := [110, 97, 109, 101]
noncomputable def tkL : List Tk := [.kout, .kreg, .kinp, .ktab, .kini, .oeq, .ocom, .osem, .obrk, .ia, .ib, .ic, .iq, .s0, .s1, .s2, .s3, .s4, .s5, .s6, .o0, .o1, .o2, .o3, .o4, .st, .eof]
noncomputable def tkI : Tk -> Nat
  | .kout => 0
  | .kreg => 1
  | .kinp => 2
  | .ktab => 3
  | .kini => 4
  | .oeq => 5
  | .ocom => 6
  | .osem => 7
  | .obrk => 8
  | .ia => 9
  | .ib => 10
  | .ic => 11
  | .iq => 12
  | .s0 => 13
  | .s1 => 14
  | .s2 => 15
  | .s3 => 16
  | .s4 => 17
  | .s5 => 18
  | .s6 => 19
  | .o0 => 20
  | .o1 => 21
  | .o2 => 22
  | .o3 => 23
  | .o4 => 24
  | .st => 25
  | .eof => 26
set_option tactic.hygienic false
theorem tk_mem (t : Tk) : t ∈ tkL := List.mem_of_getElem? (i := tkI t) (by cases t <;> rfl)
theorem zipL_eq {α β : Type} {f g : β -> α} : ∀ {l : List β}, l.map f = l.foldr (fun t r => g t :: r) [] -> ∀ t ∈ l, f t = g t
  | [], _, _, h => nomatch h
  | _ :: _, h, _, .head _ => (List.cons.inj h).1
  | _ :: _, h, t, .tail _ q => zipL_eq (List.cons.inj h).2 t q
theorem tk_eq {α : Type} {F G : Tk -> α} (h : tkL.map F = tkL.foldr (fun t r => G t :: r) []) (t : Tk) : F t = G t := zipL_eq h t (tk_mem t)
noncomputable def encR {α : Type} (b : Bool) (f : List (Tk × Int) -> α) : Option (α × (Int -> List (List (Tk × Int) -> α))) × Option (List (Tk × Int) -> α) := match b with
  | true => (some (f [], fun m => tkL.map fun u r => f ((u, m) :: r)), none)
  | false => (none, some f)
noncomputable def encS {α : Type} (b : Bool) (f : List (Tk × Int) -> α) : Option (α × (Int -> List (List (Tk × Int) -> α))) × Option (List (Tk × Int) -> α) := match b with
  | true => (some (f [], fun m => tkL.foldr (fun u l => (fun r => f ((u, m) :: r)) :: l) []), none)
  | false => (none, some f)
theorem enc_eq {α : Type} : ∀ {b : Bool} {f g : List (Tk × Int) -> α}, encR b f = encS b g -> f = g
  | false, _, _, h => Option.some.inj (Prod.mk.inj h).2
  | true, f, g, h => by
    obtain ⟨h1, h2⟩ := Prod.mk.inj (Option.some.inj (Prod.mk.inj h).1)
    funext rest
    cases rest with
    | nil => exact h1
    | cons p r => exact congrFun (tk_eq (F := fun u r => f ((u, p.2) :: r)) (G := fun u r => g ((u, p.2) :: r)) (congrFun h2 p.2) p.1) r
theorem tkr_eq {α : Type} (I : Tk -> Bool) {F G : Tk -> List (Tk × Int) -> α} (h : (tkL.map fun t => encR (I t) (F t)) = tkL.foldr (fun t r => encS (I t) (G t) :: r) []) (t : Tk) (rest : List (Tk × Int)) : F t rest = G t rest :=
  congrFun (enc_eq (zipL_eq h t (tk_mem t))) rest
theorem xtr_eq {α : Type} (I : Tk -> Bool) {F G : Option V -> Tk -> List (Tk × Int) -> α} (h : (tkL.map fun t => encR (I t) (F none t)) = tkL.foldr (fun t r => encS (I t) (G none t) :: r) []) (h' : ∀ v, (tkL.map fun t => encR (I t) (F (some v) t)) = tkL.foldr (fun t r => encS (I t) (G (some v) t) :: r) []) : ∀ (x : Option V) (t : Tk) (rest : List (Tk × Int)), F x t rest = G x t rest
  | none, t, rest => tkr_eq I h t rest
  | some v, t, rest => tkr_eq I (h' v) t rest
noncomputable def no_t : Tk -> Bool := fun _ => false
noncomputable def is_id : Tk -> Bool
  | .ia => true
  | .ib => true
  | .ic => true
  | .iq => true
  | _ => false
noncomputable def is_snd : Tk -> Bool
  | .s0 => true
  | .s1 => true
  | .s2 => true
  | .s3 => true
  | .s4 => true
  | .s5 => true
  | .s6 => true
  | _ => false
noncomputable def is_ocom : Tk -> Bool
  | .ocom => true
  | _ => false
noncomputable def is_kreg : Tk -> Bool
  | .kreg => true
  | _ => false
noncomputable def is_oeq : Tk -> Bool
  | .oeq => true
  | _ => false
noncomputable def is_osem : Tk -> Bool
  | .osem => true
  | _ => false
noncomputable def is_kinp : Tk -> Bool
  | .kinp => true
  | _ => false
noncomputable def is_kout : Tk -> Bool
  | .kout => true
  | _ => false
noncomputable def is_obrk : Tk -> Bool
  | .obrk => true
  | _ => false
end Mine
end

section
open PySem PySem.W PySem.Calls PyProof.Rows
namespace Mine
noncomputable def seqK (T : Tab) (n : Nat) (r : List Stmt) (Q : Fl -> Mine.Env -> Hp -> Prop) (X : List V -> Hp -> Prop) : Fl -> Mine.Env -> Hp -> Prop := fun f ρ₁ σ₁ => match f with
    | .next => evSs T n r ρ₁ σ₁ Q X
    | .brk => Q .brk ρ₁ σ₁
    | .cont => Q .cont ρ₁ σ₁
    | .ret v => Q (.ret v) ρ₁ σ₁
set_option tactic.hygienic false
theorem ss_cons {T : Tab} {n : Nat} {s : Stmt} {r : List Stmt} {ρ : Mine.Env} {σ : Hp} {Q : Fl -> Mine.Env -> Hp -> Prop} {X : List V -> Hp -> Prop} (h : evS T n s ρ σ (seqK T n r Q X) X) : evSs T (n + 1) (s :: r) ρ σ Q X := h
theorem ss_at {T : Tab} {n : Nat} (l : List Stmt) (i : Nat) {ρ : Mine.Env} {σ : Hp} {Q : Fl -> Mine.Env -> Hp -> Prop} {X : List V -> Hp -> Prop} (e : dropS l i = nthS l i :: dropS l (i + 1)) (h : evS T n (nthS l i) ρ σ (seqK T n (dropS l (i + 1)) Q X) X) : evSs T (n + 1) (dropS l i) ρ σ Q X := by
  rw [e]; exact h
theorem ss_first {T : Tab} {n : Nat} (l : List Stmt) {ρ : Mine.Env} {σ : Hp} {Q : Fl -> Mine.Env -> Hp -> Prop} {X : List V -> Hp -> Prop} (e : l = nthS l 0 :: dropS l 1) (h : evS T n (nthS l 0) ρ σ (seqK T n (dropS l 1) Q X) X) : evSs T (n + 1) l ρ σ Q X := by
  rw [e]; exact h
theorem ss_end {T : Tab} {n : Nat} (l : List Stmt) (i : Nat) {ρ : Mine.Env} {σ : Hp} {Q : Fl -> Mine.Env -> Hp -> Prop} {X : List V -> Hp -> Prop} (e : dropS l i = []) (h : Q .next ρ σ) : evSs T (n + 1) (dropS l i) ρ σ Q X := by
  rw [e]; exact h
theorem seq_next {T : Tab} {n : Nat} {r : List Stmt} {ρ : Mine.Env} {σ : Hp} {Q : Fl -> Mine.Env -> Hp -> Prop} {X : List V -> Hp -> Prop} (h : evSs T n r ρ σ Q X) : seqK T n r Q X .next ρ σ := h
noncomputable def iC : Stmt -> PySem.Expr
  | .If c _ _ _ => c
  | _ => .Constant .none 0 ⟨0, 0, 0, 0⟩
noncomputable def ifK (T : Tab) (n : Nat) (a b : List Stmt) (ρ : Mine.Env) (K : Fl -> Mine.Env -> Hp -> Prop) (X : List V -> Hp -> Prop) : Bool -> Hp -> Prop := fun t σ₁ => selB t (evSs T n a ρ σ₁ K X) (evSs T n b ρ σ₁ K X)
theorem evS_if {T : Tab} {n : Nat} {s : Stmt} {c : PySem.Expr} {a b : List Stmt} {p : Pos} (e : s = .If c a b p) (ρ : Mine.Env) (σ : Hp) (K : Fl -> Mine.Env -> Hp -> Prop) (X : List V -> Hp -> Prop) : evS T (n + 1) s ρ σ K X = evB T n c ρ σ (ifK T n a b ρ K X) X := by
  subst e; rfl
theorem ifK_t (T : Tab) (n : Nat) (a b : List Stmt) (ρ : Mine.Env) (σ : Hp) (K : Fl -> Mine.Env -> Hp -> Prop) (X : List V -> Hp -> Prop) : ifK T n a b ρ K X true σ = evSs T n a ρ σ K X := rfl
theorem ifK_f (T : Tab) (n : Nat) (a b : List Stmt) (ρ : Mine.Env) (σ : Hp) (K : Fl -> Mine.Env -> Hp -> Prop) (X : List V -> Hp -> Prop) : ifK T n a b ρ K X false σ = evSs T n b ρ σ K X := rfl
theorem asg_call {T : Tab} {n : Nat} {s : Stmt} {x f y : Str} {xp fp yp cp pos : Pos} (e : s = .Assign [.Name x xp] (.Call (.Name f fp) [.Name y yp] [] cp) pos) {ρ : Mine.Env} {σ : Hp} {K : Fl -> Mine.Env -> Hp -> Prop} {X : List V -> Hp -> Prop} {w : V}
    (h1 : isGlb ρ.sc f.cps.toList = true) (h2 : known T f.cps.toList = true) (h3 : look ρ.ks ρ.vs y.cps.toList = some w) (h4 : isLoc ρ.sc x.cps.toList = true) :
    evS T (n + 120) s ρ σ K X = evF T (n + 118) f.cps.toList [w] σ (fun v σ₁ => K .next (ρ.put x.cps.toList v) σ₁) X := by
  subst e
  have e : evS T (n + 120) (.Assign [.Name x xp] (.Call (.Name f fp) [.Name y yp] [] cp) pos) ρ σ K X = ifB (isGlb ρ.sc f.cps.toList) (ifB (known T f.cps.toList) (oP (fun w => evF T (n + 118) f.cps.toList [w] σ (fun v σ₁ => ifB (isLoc ρ.sc x.cps.toList) (K .next (ρ.put x.cps.toList v) σ₁)) X) (look ρ.ks ρ.vs y.cps.toList))) := rfl
  rw [e, h1, h2, h3, h4]
  rfl
theorem sel_kinp (t : Tk) {A B C D : Prop} (h : A = C) (k : B = D) : (match t with
    | .kinp => A
    | _ => B) = (match t with
    | .kinp => C
    | _ => D) := by rw [h, k]
theorem sel_kreg (t : Tk) {A B C D : Prop} (h : A = C) (k : B = D) : (match t with
    | .kreg => A
    | _ => B) = (match t with
    | .kreg => C
    | _ => D) := by rw [h, k]
theorem sel_oeq (t : Tk) {A B C D : Prop} (h : A = C) (k : B = D) : (match t with
    | .oeq => A
    | _ => B) = (match t with
    | .oeq => C
    | _ => D) := by rw [h, k]
noncomputable def iP : Stmt -> Pos
  | .If _ _ _ p => p
  | _ => ⟨0, 0, 0, 0⟩
noncomputable def idN : Tk -> Option N
  | .ia => some [97]
  | .ib => some [98]
  | .ic => some [99]
  | .iq => some [113]
  | _ => none
noncomputable def sndN : Tk -> Option Int
  | .s0 => some 1
  | .s1 => some 0
  | .s2 => some 3
  | .s3 => some 1
  | .s4 => some 0
  | .s5 => some 3
  | .s6 => some 1
  | _ => none
noncomputable def isKW : Tk -> Bool
  | .kout => true
  | .kreg => true
  | .kinp => true
  | _ => false
noncomputable def hd_ : List (Tk × Int) -> Tk × Int
  | [] => (.eof, -1)
  | p :: _ => p
noncomputable def tl_ : List (Tk × Int) -> List (Tk × Int)
  | [] => []
  | _ :: r => r
theorem adv_eq (pre : List V) (rest : List (Tk × Int)) (ex : Hp) : ∃ pre', adv pre rest ex = CSt pre' (tl_ rest) (hd_ rest) ex := by
  cases rest with
  | nil => exact ⟨pre, rfl⟩
  | cons p r => exact ⟨_, rfl⟩
noncomputable def ks5 : List N := [w_ "parser", w_ "ports", w_ "sequential", w_ "init", w_ "declared"]
noncomputable def pρ (P : List V) (h : Bool) (b : Int) (x : Option V) : Mine.Env := match x with
  | none => ⟨(fx (st 3)).nm, (fx (st 3)).sc, ks5, [cur, .vls P, .bool h, .int b, .lst 2]⟩
  | some v => ⟨(fx (st 3)).nm, (fx (st 3)).sc, ks5 ++ [w_ "name"], [cur, .vls P, .bool h, .int b, .lst 2, v]⟩
noncomputable def wpS : List Stmt := wB (nthS pB 3)
noncomputable def inA : List Stmt := iA (nthS wpS 0)
noncomputable def rgB : List Stmt := iA (nthS (iB (nthS wpS 0)) 0)
noncomputable def oB : List Stmt := iB (nthS (iB (nthS wpS 0)) 0)
section
variable (n : Nat) (P : List V) (h : Bool) (b : Int) (x : Option V) (pre : List V) (rest : List (Tk × Int)) (t : Tk) (m : Int) (ex : Hp) (l : List V) (K : Fl -> Mine.Env -> Hp -> Prop) (X : List V -> Hp -> Prop) (PP : Bool -> Hp -> Prop)
theorem p_start : evSs T0 (n + 120) pB ⟨(fx (st 3)).nm, (fx (st 3)).sc, (fx (st 3)).params, [cur, .vls P]⟩ (CSt pre rest (t, m) []) K X = evSs T0 (n + 117) (dropS pB 3) (pρ P false 3 none) (CSt pre rest (t, m) [.list []]) K X := by kernel_rfl
noncomputable def p_condF (n : Nat) (P : List V) (h : Bool) (b : Int) (pre : List V) (m : Int) (ex : Hp) (X : List V -> Hp -> Prop) (PP : Bool -> Hp -> Prop) (x : Option V) (t : Tk) (rest : List (Tk × Int)) : Prop := evB T0 (n + 120) (wC (nthS pB 3)) (pρ P h b x) (CSt pre rest (t, m) ex) PP X
noncomputable def p_condG (pre : List V) (m : Int) (ex : Hp) (PP : Bool -> Hp -> Prop) (x : Option V) (t : Tk) (rest : List (Tk × Int)) : Prop := PP (isKW t) (CSt pre rest (t, m) ex)
theorem p_cond : evB T0 (n + 120) (wC (nthS pB 3)) (pρ P h b x) (CSt pre rest (t, m) ex) PP X = PP (isKW t) (CSt pre rest (t, m) ex) :=
  xtr_eq no_t (F := p_condF n P h b pre m ex X PP) (G := p_condG pre m ex PP) (by kernel_rfl) (fun v => by kernel_rfl) x t rest
noncomputable def p_inCF (n : Nat) (P : List V) (h : Bool) (b : Int) (pre : List V) (m : Int) (ex : Hp) (X : List V -> Hp -> Prop) (PP : Bool -> Hp -> Prop) (x : Option V) (t : Tk) (rest : List (Tk × Int)) : Prop := evB T0 (n + 120) (iC (nthS wpS 0)) (pρ P h b x) (CSt pre rest (t, m) ex) PP X
noncomputable def p_inCG (pre : List V) (m : Int) (ex : Hp) (PP : Bool -> Hp -> Prop) (x : Option V) (t : Tk) (rest : List (Tk × Int)) : Prop := (match t with
    | .kinp => PP true (adv pre rest ex)
    | _ => PP false (CSt pre rest (t, m) ex))
theorem p_inputC : evB T0 (n + 120) (iC (nthS wpS 0)) (pρ P h b x) (CSt pre rest (t, m) ex) PP X = (match t with
    | .kinp => PP true (adv pre rest ex)
    | _ => PP false (CSt pre rest (t, m) ex)) :=
  xtr_eq is_kinp (F := p_inCF n P h b pre m ex X PP) (G := p_inCG pre m ex PP) (by kernel_rfl) (fun v => by kernel_rfl) x t rest
theorem p_input : evS T0 (n + 121) (nthS wpS 0) (pρ P h b x) (CSt pre rest (t, m) ex) K X = (match t with
    | .kinp => evSs T0 (n + 120) inA (pρ P h b x) (adv pre rest ex) K X
    | _ => evSs T0 (n + 120) (iB (nthS wpS 0)) (pρ P h b x) (CSt pre rest (t, m) ex) K X) :=
  (evS_if (c := iC (nthS wpS 0)) (a := inA) (b := iB (nthS wpS 0)) (p := iP (nthS wpS 0)) (by kernel_rfl) _ _ _ _).trans ((p_inputC (PP := (ifK T0 (n + 120) inA (iB (nthS wpS 0)) (pρ P h b x) K X)) ..).trans (sel_kinp t (ifK_t ..) (ifK_f ..)))
end
end Mine
end

section
open PySem PySem.W PySem.Calls PyProof.Rows
namespace Mine
section
variable (n : Nat) (P : List V) (h : Bool) (b : Int) (x : Option V) (pre : List V) (rest : List (Tk × Int)) (t : Tk) (m : Int) (ex : Hp) (l : List V) (K : Fl -> Mine.Env -> Hp -> Prop) (X : List V -> Hp -> Prop) (PP : Bool -> Hp -> Prop)
noncomputable def p_appF (n : Nat) (P : List V) (h : Bool) (b : Int) (pre : List V) (m : Int) (l : List V) (K : Fl -> Mine.Env -> Hp -> Prop) (X : List V -> Hp -> Prop) (x : Option V) (t : Tk) (rest : List (Tk × Int)) : Prop := evS T0 (n + 120) (nthS inA 0) (pρ P h b x) (CSt pre rest (t, m) [.list l]) K X
noncomputable def p_appG (n : Nat) (P : List V) (h : Bool) (b : Int) (pre : List V) (m : Int) (l : List V) (K : Fl -> Mine.Env -> Hp -> Prop) (X : List V -> Hp -> Prop) (x : Option V) (t : Tk) (rest : List (Tk × Int)) : Prop := (match idN t with
    | some s => ifB (Nat.blt l.length 4096) (K .next (pρ P h b x) (adv pre rest [.list (l ++ [.str s])]))
    | none => X [.str q_unex, .int m, .str q_name] (CSt pre rest (t, m) [.list l]))
set_option tactic.hygienic false
theorem p_app : evS T0 (n + 120) (nthS inA 0) (pρ P h b x) (CSt pre rest (t, m) [.list l]) K X = (match idN t with
    | some s => ifB (Nat.blt l.length 4096) (K .next (pρ P h b x) (adv pre rest [.list (l ++ [.str s])]))
    | none => X [.str q_unex, .int m, .str q_name] (CSt pre rest (t, m) [.list l])) :=
  xtr_eq is_id (F := p_appF n P h b pre m l K X) (G := p_appG n P h b pre m l K X) (by kernel_rfl) (fun v => by kernel_rfl) x t rest
noncomputable def p_app2F (n : Nat) (P : List V) (h : Bool) (b : Int) (pre : List V) (m : Int) (l : List V) (K : Fl -> Mine.Env -> Hp -> Prop) (X : List V -> Hp -> Prop) (x : Option V) (t : Tk) (rest : List (Tk × Int)) : Prop := evS T0 (n + 120) (nthS (wB (nthS inA 1)) 0) (pρ P h b x) (CSt pre rest (t, m) [.list l]) K X
noncomputable def p_app2G (n : Nat) (P : List V) (h : Bool) (b : Int) (pre : List V) (m : Int) (l : List V) (K : Fl -> Mine.Env -> Hp -> Prop) (X : List V -> Hp -> Prop) (x : Option V) (t : Tk) (rest : List (Tk × Int)) : Prop := (match idN t with
    | some s => ifB (Nat.blt l.length 4096) (K .next (pρ P h b x) (adv pre rest [.list (l ++ [.str s])]))
    | none => X [.str q_unex, .int m, .str q_name] (CSt pre rest (t, m) [.list l]))
theorem p_app2 : evS T0 (n + 120) (nthS (wB (nthS inA 1)) 0) (pρ P h b x) (CSt pre rest (t, m) [.list l]) K X = (match idN t with
    | some s => ifB (Nat.blt l.length 4096) (K .next (pρ P h b x) (adv pre rest [.list (l ++ [.str s])]))
    | none => X [.str q_unex, .int m, .str q_name] (CSt pre rest (t, m) [.list l])) :=
  xtr_eq is_id (F := p_app2F n P h b pre m l K X) (G := p_app2G n P h b pre m l K X) (by kernel_rfl) (fun v => by kernel_rfl) x t rest
noncomputable def p_commaF (n : Nat) (P : List V) (h : Bool) (b : Int) (pre : List V) (m : Int) (ex : Hp) (X : List V -> Hp -> Prop) (PP : Bool -> Hp -> Prop) (x : Option V) (t : Tk) (rest : List (Tk × Int)) : Prop := evB T0 (n + 120) (wC (nthS inA 1)) (pρ P h b x) (CSt pre rest (t, m) ex) PP X
noncomputable def p_commaG (n : Nat) (P : List V) (h : Bool) (b : Int) (pre : List V) (m : Int) (ex : Hp) (X : List V -> Hp -> Prop) (PP : Bool -> Hp -> Prop) (x : Option V) (t : Tk) (rest : List (Tk × Int)) : Prop := (match t with
    | .ocom => PP true (adv pre rest ex)
    | _ => PP false (CSt pre rest (t, m) ex))
theorem p_comma : evB T0 (n + 120) (wC (nthS inA 1)) (pρ P h b x) (CSt pre rest (t, m) ex) PP X = (match t with
    | .ocom => PP true (adv pre rest ex)
    | _ => PP false (CSt pre rest (t, m) ex)) :=
  xtr_eq is_ocom (F := p_commaF n P h b pre m ex X PP) (G := p_commaG n P h b pre m ex X PP) (by kernel_rfl) (fun v => by kernel_rfl) x t rest
noncomputable def p_regF (n : Nat) (P : List V) (h : Bool) (b : Int) (pre : List V) (m : Int) (ex : Hp) (X : List V -> Hp -> Prop) (PP : Bool -> Hp -> Prop) (x : Option V) (t : Tk) (rest : List (Tk × Int)) : Prop := evB T0 (n + 120) (iC (nthS (iB (nthS wpS 0)) 0)) (pρ P h b x) (CSt pre rest (t, m) ex) PP X
noncomputable def p_regG (pre : List V) (m : Int) (ex : Hp) (PP : Bool -> Hp -> Prop) (x : Option V) (t : Tk) (rest : List (Tk × Int)) : Prop := (match t with
    | .kreg => PP true (adv pre rest ex)
    | _ => PP false (CSt pre rest (t, m) ex))
theorem p_regC : evB T0 (n + 120) (iC (nthS (iB (nthS wpS 0)) 0)) (pρ P h b x) (CSt pre rest (t, m) ex) PP X = (match t with
    | .kreg => PP true (adv pre rest ex)
    | _ => PP false (CSt pre rest (t, m) ex)) :=
  xtr_eq is_kreg (F := p_regF n P h b pre m ex X PP) (G := p_regG pre m ex PP) (by kernel_rfl) (fun v => by kernel_rfl) x t rest
theorem p_reg : evS T0 (n + 121) (nthS (iB (nthS wpS 0)) 0) (pρ P h b x) (CSt pre rest (t, m) ex) K X = (match t with
    | .kreg => evSs T0 (n + 120) rgB (pρ P h b x) (adv pre rest ex) K X
    | _ => evSs T0 (n + 120) oB (pρ P h b x) (CSt pre rest (t, m) ex) K X) :=
  (evS_if (c := iC (nthS (iB (nthS wpS 0)) 0)) (a := rgB) (b := oB) (p := iP (nthS (iB (nthS wpS 0)) 0)) (by kernel_rfl) _ _ _ _).trans ((p_regC (PP := (ifK T0 (n + 120) (rgB) (oB) (pρ P h b x) K X)) ..).trans (sel_kreg t (ifK_t ..) (ifK_f ..)))
theorem p_seq : evS T0 (n + 120) (nthS rgB 0) (pρ P h b x) (CSt pre rest (t, m) ex) K X = K .next (pρ P true b x) (CSt pre rest (t, m) ex) := by cases x <;> kernel_rfl
noncomputable def p_heldF (n : Nat) (P : List V) (h : Bool) (b : Int) (pre : List V) (m : Int) (ex : Hp) (K : Fl -> Mine.Env -> Hp -> Prop) (X : List V -> Hp -> Prop) (x : Option V) (t : Tk) (rest : List (Tk × Int)) : Prop := evS T0 (n + 120) (nthS rgB 1) (pρ (.str [113] :: P) h b x) (CSt pre rest (t, m) ex) K X
noncomputable def p_heldG (n : Nat) (P : List V) (h : Bool) (b : Int) (pre : List V) (m : Int) (ex : Hp) (K : Fl -> Mine.Env -> Hp -> Prop) (X : List V -> Hp -> Prop) (x : Option V) (t : Tk) (rest : List (Tk × Int)) : Prop := (match t with
    | .iq => K .next (pρ (.str [113] :: P) h b x) (adv pre rest ex)
    | .ia => X [.str q_prim, .int (hd_ rest).2, .str []] (adv pre rest ex)
    | .ib => X [.str q_prim, .int (hd_ rest).2, .str []] (adv pre rest ex)
    | .ic => X [.str q_prim, .int (hd_ rest).2, .str []] (adv pre rest ex)
    | _ => X [.str q_unex, .int m, .str q_name] (CSt pre rest (t, m) ex))
theorem p_held : evS T0 (n + 120) (nthS rgB 1) (pρ (.str [113] :: P) h b x) (CSt pre rest (t, m) ex) K X = (match t with
    | .iq => K .next (pρ (.str [113] :: P) h b x) (adv pre rest ex)
    | .ia => X [.str q_prim, .int (hd_ rest).2, .str []] (adv pre rest ex)
    | .ib => X [.str q_prim, .int (hd_ rest).2, .str []] (adv pre rest ex)
    | .ic => X [.str q_prim, .int (hd_ rest).2, .str []] (adv pre rest ex)
    | _ => X [.str q_unex, .int m, .str q_name] (CSt pre rest (t, m) ex)) :=
  xtr_eq is_id (F := p_heldF n P h b pre m ex K X) (G := p_heldG n P h b pre m ex K X) (by kernel_rfl) (fun v => by kernel_rfl) x t rest
noncomputable def p_outF (n : Nat) (P : List V) (h : Bool) (b : Int) (pre : List V) (m : Int) (ex : Hp) (K : Fl -> Mine.Env -> Hp -> Prop) (X : List V -> Hp -> Prop) (x : Option V) (rest : List (Tk × Int)) : Prop := evS T0 (n + 120) (nthS oB 0) (pρ P h b x) (CSt pre rest (.kout, m) ex) K X
noncomputable def p_outG (P : List V) (h : Bool) (b : Int) (pre : List V) (ex : Hp) (K : Fl -> Mine.Env -> Hp -> Prop) (x : Option V) (rest : List (Tk × Int)) : Prop := K .next (pρ P h b x) (adv pre rest ex)
set_option tactic.hygienic true
theorem p_out : evS T0 (n + 120) (nthS oB 0) (pρ P h b x) (CSt pre rest (.kout, m) ex) K X = K .next (pρ P h b x) (adv pre rest ex) := by
  cases x
  case none => exact congrFun (enc_eq (b := true) (f := p_outF n P h b pre m ex K X none) (g := p_outG P h b pre ex K none) (by kernel_rfl)) rest
  case some x => exact congrFun (enc_eq (b := true) (f := p_outF n P h b pre m ex K X (some x)) (g := p_outG P h b pre ex K (some x)) (by kernel_rfl)) rest
noncomputable def p_oregF (n : Nat) (P : List V) (h : Bool) (b : Int) (pre : List V) (m : Int) (ex : Hp) (K : Fl -> Mine.Env -> Hp -> Prop) (X : List V -> Hp -> Prop) (x : Option V) (t : Tk) (rest : List (Tk × Int)) : Prop := evS T0 (n + 120) (nthS oB 1) (pρ P h b x) (CSt pre rest (t, m) ex) K X
noncomputable def p_oregG (n : Nat) (P : List V) (h : Bool) (b : Int) (pre : List V) (m : Int) (ex : Hp) (K : Fl -> Mine.Env -> Hp -> Prop) (X : List V -> Hp -> Prop) (x : Option V) (t : Tk) (rest : List (Tk × Int)) : Prop := (match t with
    | .kreg => K .next (pρ P true b x) (adv pre rest ex)
    | _ => K .next (pρ P h b x) (CSt pre rest (t, m) ex))
set_option tactic.hygienic false
theorem p_oreg : evS T0 (n + 120) (nthS oB 1) (pρ P h b x) (CSt pre rest (t, m) ex) K X = (match t with
    | .kreg => K .next (pρ P true b x) (adv pre rest ex)
    | _ => K .next (pρ P h b x) (CSt pre rest (t, m) ex)) :=
  xtr_eq is_kreg (F := p_oregF n P h b pre m ex K X) (G := p_oregG n P h b pre m ex K X) (by kernel_rfl) (fun v => by kernel_rfl) x t rest
noncomputable def p_nameF (n : Nat) (P : List V) (h : Bool) (b : Int) (pre : List V) (m : Int) (ex : Hp) (K : Fl -> Mine.Env -> Hp -> Prop) (X : List V -> Hp -> Prop) (x : Option V) (t : Tk) (rest : List (Tk × Int)) : Prop := evS T0 (n + 120) (nthS oB 2) (pρ P h b x) (CSt pre rest (t, m) ex) K X
noncomputable def p_nameG (n : Nat) (P : List V) (h : Bool) (b : Int) (pre : List V) (m : Int) (ex : Hp) (K : Fl -> Mine.Env -> Hp -> Prop) (X : List V -> Hp -> Prop) (x : Option V) (t : Tk) (rest : List (Tk × Int)) : Prop := (match idN t with
    | some s => K .next (pρ P h b (some (.str s))) (adv pre rest ex)
    | none => X [.str q_unex, .int m, .str q_name] (CSt pre rest (t, m) ex))
theorem p_name : evS T0 (n + 120) (nthS oB 2) (pρ P h b x) (CSt pre rest (t, m) ex) K X = (match idN t with
    | some s => K .next (pρ P h b (some (.str s))) (adv pre rest ex)
    | none => X [.str q_unex, .int m, .str q_name] (CSt pre rest (t, m) ex)) :=
  xtr_eq is_id (F := p_nameF n P h b pre m ex K X) (G := p_nameG n P h b pre m ex K X) (by kernel_rfl) (fun v => by kernel_rfl) x t rest
theorem p_isq : evS T0 (n + 120) (nthS oB 3) (pρ (.str [113] :: P) h b (some (.str [113]))) (CSt pre rest (t, m) ex) K X = K .next (pρ (.str [113] :: P) h b (some (.str [113]))) (CSt pre rest (t, m) ex) := by kernel_rfl
theorem p_isa : evS T0 (n + 120) (nthS oB 3) (pρ (.str [113] :: P) h b (some (.str [97]))) (CSt pre rest (t, m) ex) K X = X [.str q_prim, .int m, .str []] (CSt pre rest (t, m) ex) := by kernel_rfl
theorem p_isb : evS T0 (n + 120) (nthS oB 3) (pρ (.str [113] :: P) h b (some (.str [98]))) (CSt pre rest (t, m) ex) K X = X [.str q_prim, .int m, .str []] (CSt pre rest (t, m) ex) := by kernel_rfl
theorem p_isc : evS T0 (n + 120) (nthS oB 3) (pρ (.str [113] :: P) h b (some (.str [99]))) (CSt pre rest (t, m) ex) K X = X [.str q_prim, .int m, .str []] (CSt pre rest (t, m) ex) := by kernel_rfl
theorem p_add (s : N) : evS T0 (n + 120) (nthS oB 4) (pρ P h b (some (.str s))) (CSt pre rest (t, m) [.list l]) K X = ifB (Nat.blt l.length 4096) (K .next (pρ P h b (some (.str s))) (CSt pre rest (t, m) [.list (l ++ [.str s])])) := by kernel_rfl
theorem p_eq0 : evS T0 (n + 121) (nthS oB 5) (pρ P false b x) (CSt pre rest (t, m) ex) K X = K .next (pρ P false b x) (CSt pre rest (t, m) ex) := by cases x <;> kernel_rfl
noncomputable def p_eq1F (n : Nat) (P : List V) (b : Int) (pre : List V) (m : Int) (ex : Hp) (X : List V -> Hp -> Prop) (PP : Bool -> Hp -> Prop) (x : Option V) (t : Tk) (rest : List (Tk × Int)) : Prop := evB T0 (n + 120) (iC (nthS oB 5)) (pρ P true b x) (CSt pre rest (t, m) ex) PP X
noncomputable def p_eq1G (pre : List V) (m : Int) (ex : Hp) (PP : Bool -> Hp -> Prop) (x : Option V) (t : Tk) (rest : List (Tk × Int)) : Prop := (match t with
    | .oeq => PP true (adv pre rest ex)
    | _ => PP false (CSt pre rest (t, m) ex))
theorem p_eq1C : evB T0 (n + 120) (iC (nthS oB 5)) (pρ P true b x) (CSt pre rest (t, m) ex) PP X = (match t with
    | .oeq => PP true (adv pre rest ex)
    | _ => PP false (CSt pre rest (t, m) ex)) :=
  xtr_eq is_oeq (F := p_eq1F n P b pre m ex X PP) (G := p_eq1G pre m ex PP) (by kernel_rfl) (fun v => by kernel_rfl) x t rest
theorem p_eq1 : evS T0 (n + 121) (nthS oB 5) (pρ P true b x) (CSt pre rest (t, m) ex) K X = (match t with
    | .oeq => evSs T0 (n + 120) (iA (nthS oB 5)) (pρ P true b x) (adv pre rest ex) K X
    | _ => K .next (pρ P true b x) (CSt pre rest (t, m) ex)) :=
  (evS_if (c := iC (nthS oB 5)) (a := iA (nthS oB 5)) (b := iB (nthS oB 5)) (p := iP (nthS oB 5)) (by kernel_rfl) _ _ _ _).trans ((p_eq1C (PP := (ifK T0 (n + 120) (iA (nthS oB 5)) (iB (nthS oB 5)) (pρ P true b x) K X)) ..).trans (sel_oeq t (ifK_t ..) (ifK_f ..)))
noncomputable def c_initF (n : Nat) (pre : List V) (m : Int) (ex : Hp) (Q : V -> Hp -> Prop) (X : List V -> Hp -> Prop) (t : Tk) (rest : List (Tk × Int)) : Prop := evF T0 (n + 110) (w_ "initial_code") [cur] (CSt pre rest (t, m) ex) Q X
noncomputable def c_initG (n : Nat) (pre : List V) (m : Int) (ex : Hp) (Q : V -> Hp -> Prop) (X : List V -> Hp -> Prop) (t : Tk) (rest : List (Tk × Int)) : Prop := (match sndN t with
    | some c => Q (.int c) (adv pre rest ex)
    | none => X [.str q_init, .int m, .str []] (CSt pre rest (t, m) ex))
theorem c_init (Q : V -> Hp -> Prop) : evF T0 (n + 110) (w_ "initial_code") [cur] (CSt pre rest (t, m) ex) Q X = (match sndN t with
    | some c => Q (.int c) (adv pre rest ex)
    | none => X [.str q_init, .int m, .str []] (CSt pre rest (t, m) ex)) :=
  tkr_eq is_snd (F := c_initF n pre m ex Q X) (G := c_initG n pre m ex Q X) (by kernel_rfl) t rest
theorem p_init : evS T0 (n + 120) (nthS (iA (nthS oB 5)) 0) (pρ P h b x) (CSt pre rest (t, m) ex) K X = evF T0 (n + 118) (w_ "initial_code") [cur] (CSt pre rest (t, m) ex) (fun v σ₁ => K .next ((pρ P h b x).put (w_ "init") v) σ₁) X := by
  cases x with
  | none => exact asg_call (by rfl) (by kernel_rfl) (by kernel_rfl) (by kernel_rfl) (by kernel_rfl)
  | some v => exact asg_call (by rfl) (by kernel_rfl) (by kernel_rfl) (by kernel_rfl) (by kernel_rfl)
theorem put_init (c : Int) : (pρ P h b x).put (w_ "init") (.int c) = pρ P h c x := by cases x <;> kernel_rfl
noncomputable def p_semiF (n : Nat) (P : List V) (h : Bool) (b : Int) (pre : List V) (m : Int) (ex : Hp) (K : Fl -> Mine.Env -> Hp -> Prop) (X : List V -> Hp -> Prop) (x : Option V) (t : Tk) (rest : List (Tk × Int)) : Prop := evS T0 (n + 120) (nthS wpS 1) (pρ P h b x) (CSt pre rest (t, m) ex) K X
noncomputable def p_semiG (n : Nat) (P : List V) (h : Bool) (b : Int) (pre : List V) (m : Int) (ex : Hp) (K : Fl -> Mine.Env -> Hp -> Prop) (X : List V -> Hp -> Prop) (x : Option V) (t : Tk) (rest : List (Tk × Int)) : Prop := (match t with
    | .osem => K .next (pρ P h b x) (adv pre rest ex)
    | _ => X [.str q_unex, .int m, .str [59]] (CSt pre rest (t, m) ex))
theorem p_semi : evS T0 (n + 120) (nthS wpS 1) (pρ P h b x) (CSt pre rest (t, m) ex) K X = (match t with
    | .osem => K .next (pρ P h b x) (adv pre rest ex)
    | _ => X [.str q_unex, .int m, .str [59]] (CSt pre rest (t, m) ex)) :=
  xtr_eq is_osem (F := p_semiF n P h b pre m ex K X) (G := p_semiG n P h b pre m ex K X) (by kernel_rfl) (fun v => by kernel_rfl) x t rest
theorem p_ret : evS T0 (n + 120) (nthS pB 5) (pρ P h b x) (CSt pre rest (t, m) ex) K X = K (.ret (.tup [.bool h, .int b])) (pρ P h b x) (CSt pre rest (t, m) ex) := by cases x <;> kernel_rfl
end
end Mine
end

section
open PySem PySem.W PySem.Calls PyProof.Rows
namespace Mine
noncomputable def aρ (vs : List V) : Mine.Env := ⟨(fx (st 2)).nm, (fx (st 2)).sc, [w_ "parser", w_ "sequential", w_ "ports", w_ "init"].take vs.length, vs⟩
noncomputable def aW : List Stmt := wB (nthS aB 5)
section
variable (n : Nat) (h : Bool) (b : Int) (pre : List V) (rest : List (Tk × Int)) (t : Tk) (m : Int) (ex : Hp) (l : List V) (K : Fl -> Mine.Env -> Hp -> Prop) (X : List V -> Hp -> Prop) (PP : Bool -> Hp -> Prop)
set_option tactic.hygienic false
theorem a_params : (⟨(fx (st 2)).nm, (fx (st 2)).sc, (fx (st 2)).params, [cur]⟩ : Mine.Env) = aρ [cur] := by kernel_rfl
noncomputable def a_outF (n : Nat) (pre : List V) (m : Int) (ex : Hp) (K : Fl -> Mine.Env -> Hp -> Prop) (X : List V -> Hp -> Prop) (t : Tk) (rest : List (Tk × Int)) : Prop := evS T0 (n + 120) (nthS aB 0) (aρ [cur]) (CSt pre rest (t, m) ex) K X
noncomputable def a_outG (n : Nat) (pre : List V) (m : Int) (ex : Hp) (K : Fl -> Mine.Env -> Hp -> Prop) (X : List V -> Hp -> Prop) (t : Tk) (rest : List (Tk × Int)) : Prop := (match t with
    | .kout => K .next (aρ [cur]) (adv pre rest ex)
    | _ => X [.str q_unex, .int m, .str [111, 117, 116, 112, 117, 116]] (CSt pre rest (t, m) ex))
theorem a_out : evS T0 (n + 120) (nthS aB 0) (aρ [cur]) (CSt pre rest (t, m) ex) K X = (match t with
    | .kout => K .next (aρ [cur]) (adv pre rest ex)
    | _ => X [.str q_unex, .int m, .str [111, 117, 116, 112, 117, 116]] (CSt pre rest (t, m) ex)) :=
  tkr_eq is_kout (F := a_outF n pre m ex K X) (G := a_outG n pre m ex K X) (by kernel_rfl) t rest
noncomputable def a_regF (n : Nat) (pre : List V) (m : Int) (ex : Hp) (K : Fl -> Mine.Env -> Hp -> Prop) (X : List V -> Hp -> Prop) (t : Tk) (rest : List (Tk × Int)) : Prop := evS T0 (n + 120) (nthS aB 1) (aρ [cur]) (CSt pre rest (t, m) ex) K X
noncomputable def a_regG (n : Nat) (pre : List V) (m : Int) (ex : Hp) (K : Fl -> Mine.Env -> Hp -> Prop) (X : List V -> Hp -> Prop) (t : Tk) (rest : List (Tk × Int)) : Prop := (match t with
    | .kreg => K .next (aρ [cur, .bool true]) (adv pre rest ex)
    | _ => K .next (aρ [cur, .bool false]) (CSt pre rest (t, m) ex))
theorem a_reg : evS T0 (n + 120) (nthS aB 1) (aρ [cur]) (CSt pre rest (t, m) ex) K X = (match t with
    | .kreg => K .next (aρ [cur, .bool true]) (adv pre rest ex)
    | _ => K .next (aρ [cur, .bool false]) (CSt pre rest (t, m) ex)) :=
  tkr_eq is_kreg (F := a_regF n pre m ex K X) (G := a_regG n pre m ex K X) (by kernel_rfl) t rest
noncomputable def a_firstF (n : Nat) (h : Bool) (pre : List V) (m : Int) (K : Fl -> Mine.Env -> Hp -> Prop) (X : List V -> Hp -> Prop) (t : Tk) (rest : List (Tk × Int)) : Prop := evS T0 (n + 120) (nthS aB 2) (aρ [cur, .bool h]) (CSt pre rest (t, m) []) K X
noncomputable def a_firstG (n : Nat) (h : Bool) (pre : List V) (m : Int) (K : Fl -> Mine.Env -> Hp -> Prop) (X : List V -> Hp -> Prop) (t : Tk) (rest : List (Tk × Int)) : Prop := (match idN t with
    | some s => K .next (aρ [cur, .bool h, .lst 2]) (adv pre rest [.list [.str s]])
    | none => X [.str q_unex, .int m, .str q_name] (CSt pre rest (t, m) []))
theorem a_first : evS T0 (n + 120) (nthS aB 2) (aρ [cur, .bool h]) (CSt pre rest (t, m) []) K X = (match idN t with
    | some s => K .next (aρ [cur, .bool h, .lst 2]) (adv pre rest [.list [.str s]])
    | none => X [.str q_unex, .int m, .str q_name] (CSt pre rest (t, m) [])) :=
  tkr_eq is_id (F := a_firstF n h pre m K X) (G := a_firstG n h pre m K X) (by kernel_rfl) t rest
theorem a_three : evS T0 (n + 120) (nthS aB 3) (aρ [cur, .bool h, .lst 2]) (CSt pre rest (t, m) ex) K X = K .next (aρ [cur, .bool h, .lst 2, .int 3]) (CSt pre rest (t, m) ex) := by kernel_rfl
theorem a_eq0 : evS T0 (n + 121) (nthS aB 4) (aρ [cur, .bool false, .lst 2, .int b]) (CSt pre rest (t, m) ex) K X = K .next (aρ [cur, .bool false, .lst 2, .int b]) (CSt pre rest (t, m) ex) := by kernel_rfl
noncomputable def a_eq1F (n : Nat) (b : Int) (pre : List V) (m : Int) (ex : Hp) (X : List V -> Hp -> Prop) (PP : Bool -> Hp -> Prop) (t : Tk) (rest : List (Tk × Int)) : Prop := evB T0 (n + 120) (iC (nthS aB 4)) (aρ [cur, .bool true, .lst 2, .int b]) (CSt pre rest (t, m) ex) PP X
noncomputable def a_eq1G (pre : List V) (m : Int) (ex : Hp) (PP : Bool -> Hp -> Prop) (t : Tk) (rest : List (Tk × Int)) : Prop := (match t with
    | .oeq => PP true (adv pre rest ex)
    | _ => PP false (CSt pre rest (t, m) ex))
theorem a_eq1C : evB T0 (n + 120) (iC (nthS aB 4)) (aρ [cur, .bool true, .lst 2, .int b]) (CSt pre rest (t, m) ex) PP X = (match t with
    | .oeq => PP true (adv pre rest ex)
    | _ => PP false (CSt pre rest (t, m) ex)) :=
  tkr_eq is_oeq (F := a_eq1F n b pre m ex X PP) (G := a_eq1G pre m ex PP) (by kernel_rfl) t rest
theorem a_eq1 : evS T0 (n + 121) (nthS aB 4) (aρ [cur, .bool true, .lst 2, .int b]) (CSt pre rest (t, m) ex) K X = (match t with
    | .oeq => evSs T0 (n + 120) (iA (nthS aB 4)) (aρ [cur, .bool true, .lst 2, .int b]) (adv pre rest ex) K X
    | _ => K .next (aρ [cur, .bool true, .lst 2, .int b]) (CSt pre rest (t, m) ex)) :=
  (evS_if (c := iC (nthS aB 4)) (a := iA (nthS aB 4)) (b := iB (nthS aB 4)) (p := iP (nthS aB 4)) (by kernel_rfl) _ _ _ _).trans ((a_eq1C (PP := (ifK T0 (n + 120) (iA (nthS aB 4)) (iB (nthS aB 4)) (aρ [cur, .bool true, .lst 2, .int b]) K X)) ..).trans (sel_oeq t (ifK_t ..) (ifK_f ..)))
theorem a_init : evS T0 (n + 120) (nthS (iA (nthS aB 4)) 0) (aρ [cur, .bool h, .lst 2, .int b]) (CSt pre rest (t, m) ex) K X = evF T0 (n + 118) (w_ "initial_code") [cur] (CSt pre rest (t, m) ex) (fun v σ₁ => K .next (aρ [cur, .bool h, .lst 2, v]) σ₁) X := asg_call (by rfl) (by kernel_rfl) (by kernel_rfl) (by kernel_rfl) (by kernel_rfl)
noncomputable def a_commaF (n : Nat) (h : Bool) (b : Int) (pre : List V) (m : Int) (ex : Hp) (X : List V -> Hp -> Prop) (PP : Bool -> Hp -> Prop) (t : Tk) (rest : List (Tk × Int)) : Prop := evB T0 (n + 120) (wC (nthS aB 5)) (aρ [cur, .bool h, .lst 2, .int b]) (CSt pre rest (t, m) ex) PP X
noncomputable def a_commaG (n : Nat) (h : Bool) (b : Int) (pre : List V) (m : Int) (ex : Hp) (X : List V -> Hp -> Prop) (PP : Bool -> Hp -> Prop) (t : Tk) (rest : List (Tk × Int)) : Prop := (match t with
    | .ocom => PP true (adv pre rest ex)
    | _ => PP false (CSt pre rest (t, m) ex))
theorem a_comma : evB T0 (n + 120) (wC (nthS aB 5)) (aρ [cur, .bool h, .lst 2, .int b]) (CSt pre rest (t, m) ex) PP X = (match t with
    | .ocom => PP true (adv pre rest ex)
    | _ => PP false (CSt pre rest (t, m) ex)) :=
  tkr_eq is_ocom (F := a_commaF n h b pre m ex X PP) (G := a_commaG n h b pre m ex X PP) (by kernel_rfl) t rest
noncomputable def a_inp1F (n : Nat) (h : Bool) (b : Int) (pre : List V) (m : Int) (u : V) (K : Fl -> Mine.Env -> Hp -> Prop) (X : List V -> Hp -> Prop) (t : Tk) (rest : List (Tk × Int)) : Prop := evS T0 (n + 121) (nthS aW 0) (aρ [cur, .bool h, .lst 2, .int b]) (CSt pre rest (t, m) [.list [u]]) K X
noncomputable def a_inp1G (n : Nat) (h : Bool) (b : Int) (pre : List V) (m : Int) (u : V) (K : Fl -> Mine.Env -> Hp -> Prop) (X : List V -> Hp -> Prop) (t : Tk) (rest : List (Tk × Int)) : Prop := (match t with
    | .kinp => K .next (aρ [cur, .bool h, .lst 2, .int b]) (adv pre rest [.list [u]])
    | _ => X [.str q_prim, .int m, .str []] (CSt pre rest (t, m) [.list [u]]))
theorem a_inp1 (u : V) : evS T0 (n + 121) (nthS aW 0) (aρ [cur, .bool h, .lst 2, .int b]) (CSt pre rest (t, m) [.list [u]]) K X = (match t with
    | .kinp => K .next (aρ [cur, .bool h, .lst 2, .int b]) (adv pre rest [.list [u]])
    | _ => X [.str q_prim, .int m, .str []] (CSt pre rest (t, m) [.list [u]])) :=
  tkr_eq is_kinp (F := a_inp1F n h b pre m u K X) (G := a_inp1G n h b pre m u K X) (by kernel_rfl) t rest
noncomputable def a_inp2F (n : Nat) (h : Bool) (b : Int) (pre : List V) (m : Int) (l : List V) (u : V) (u2 : V) (K : Fl -> Mine.Env -> Hp -> Prop) (X : List V -> Hp -> Prop) (t : Tk) (rest : List (Tk × Int)) : Prop := evS T0 (n + 121) (nthS aW 0) (aρ [cur, .bool h, .lst 2, .int b]) (CSt pre rest (t, m) [.list (u :: u2 :: l)]) K X
noncomputable def a_inp2G (n : Nat) (h : Bool) (b : Int) (pre : List V) (m : Int) (l : List V) (u : V) (u2 : V) (K : Fl -> Mine.Env -> Hp -> Prop) (X : List V -> Hp -> Prop) (t : Tk) (rest : List (Tk × Int)) : Prop := (match t with
    | .kinp => K .next (aρ [cur, .bool h, .lst 2, .int b]) (adv pre rest [.list (u :: u2 :: l)])
    | _ => K .next (aρ [cur, .bool h, .lst 2, .int b]) (CSt pre rest (t, m) [.list (u :: u2 :: l)]))
theorem a_inp2 (u u2 : V) : evS T0 (n + 121) (nthS aW 0) (aρ [cur, .bool h, .lst 2, .int b]) (CSt pre rest (t, m) [.list (u :: u2 :: l)]) K X = (match t with
    | .kinp => K .next (aρ [cur, .bool h, .lst 2, .int b]) (adv pre rest [.list (u :: u2 :: l)])
    | _ => K .next (aρ [cur, .bool h, .lst 2, .int b]) (CSt pre rest (t, m) [.list (u :: u2 :: l)])) :=
  tkr_eq is_kinp (F := a_inp2F n h b pre m l u u2 K X) (G := a_inp2G n h b pre m l u u2 K X) (by kernel_rfl) t rest
noncomputable def a_appF (n : Nat) (h : Bool) (b : Int) (pre : List V) (m : Int) (l : List V) (K : Fl -> Mine.Env -> Hp -> Prop) (X : List V -> Hp -> Prop) (t : Tk) (rest : List (Tk × Int)) : Prop := evS T0 (n + 120) (nthS aW 1) (aρ [cur, .bool h, .lst 2, .int b]) (CSt pre rest (t, m) [.list l]) K X
noncomputable def a_appG (n : Nat) (h : Bool) (b : Int) (pre : List V) (m : Int) (l : List V) (K : Fl -> Mine.Env -> Hp -> Prop) (X : List V -> Hp -> Prop) (t : Tk) (rest : List (Tk × Int)) : Prop := (match idN t with
    | some s => ifB (Nat.blt l.length 4096) (K .next (aρ [cur, .bool h, .lst 2, .int b]) (adv pre rest [.list (l ++ [.str s])]))
    | none => X [.str q_unex, .int m, .str q_name] (CSt pre rest (t, m) [.list l]))
theorem a_app : evS T0 (n + 120) (nthS aW 1) (aρ [cur, .bool h, .lst 2, .int b]) (CSt pre rest (t, m) [.list l]) K X = (match idN t with
    | some s => ifB (Nat.blt l.length 4096) (K .next (aρ [cur, .bool h, .lst 2, .int b]) (adv pre rest [.list (l ++ [.str s])]))
    | none => X [.str q_unex, .int m, .str q_name] (CSt pre rest (t, m) [.list l])) :=
  tkr_eq is_id (F := a_appF n h b pre m l K X) (G := a_appG n h b pre m l K X) (by kernel_rfl) t rest
noncomputable def a_brkF (n : Nat) (h : Bool) (b : Int) (pre : List V) (m : Int) (ex : Hp) (K : Fl -> Mine.Env -> Hp -> Prop) (X : List V -> Hp -> Prop) (t : Tk) (rest : List (Tk × Int)) : Prop := evS T0 (n + 120) (nthS aB 6) (aρ [cur, .bool h, .lst 2, .int b]) (CSt pre rest (t, m) ex) K X
noncomputable def a_brkG (n : Nat) (h : Bool) (b : Int) (pre : List V) (m : Int) (ex : Hp) (K : Fl -> Mine.Env -> Hp -> Prop) (X : List V -> Hp -> Prop) (t : Tk) (rest : List (Tk × Int)) : Prop := (match t with
    | .obrk => K .next (aρ [cur, .bool h, .lst 2, .int b]) (adv pre rest ex)
    | _ => X [.str q_unex, .int m, .str [41]] (CSt pre rest (t, m) ex))
theorem a_brk : evS T0 (n + 120) (nthS aB 6) (aρ [cur, .bool h, .lst 2, .int b]) (CSt pre rest (t, m) ex) K X = (match t with
    | .obrk => K .next (aρ [cur, .bool h, .lst 2, .int b]) (adv pre rest ex)
    | _ => X [.str q_unex, .int m, .str [41]] (CSt pre rest (t, m) ex)) :=
  tkr_eq is_obrk (F := a_brkF n h b pre m ex K X) (G := a_brkG n h b pre m ex K X) (by kernel_rfl) t rest
noncomputable def a_semiF (n : Nat) (h : Bool) (b : Int) (pre : List V) (m : Int) (ex : Hp) (K : Fl -> Mine.Env -> Hp -> Prop) (X : List V -> Hp -> Prop) (t : Tk) (rest : List (Tk × Int)) : Prop := evS T0 (n + 120) (nthS aB 7) (aρ [cur, .bool h, .lst 2, .int b]) (CSt pre rest (t, m) ex) K X
noncomputable def a_semiG (n : Nat) (h : Bool) (b : Int) (pre : List V) (m : Int) (ex : Hp) (K : Fl -> Mine.Env -> Hp -> Prop) (X : List V -> Hp -> Prop) (t : Tk) (rest : List (Tk × Int)) : Prop := (match t with
    | .osem => K .next (aρ [cur, .bool h, .lst 2, .int b]) (adv pre rest ex)
    | _ => X [.str q_unex, .int m, .str [59]] (CSt pre rest (t, m) ex))
theorem a_semi : evS T0 (n + 120) (nthS aB 7) (aρ [cur, .bool h, .lst 2, .int b]) (CSt pre rest (t, m) ex) K X = (match t with
    | .osem => K .next (aρ [cur, .bool h, .lst 2, .int b]) (adv pre rest ex)
    | _ => X [.str q_unex, .int m, .str [59]] (CSt pre rest (t, m) ex)) :=
  tkr_eq is_osem (F := a_semiF n h b pre m ex K X) (G := a_semiG n h b pre m ex K X) (by kernel_rfl) t rest
theorem a_ret : evS T0 (n + 120) (nthS aB 8) (aρ [cur, .bool h, .lst 2, .int b]) (CSt pre rest (t, m) ex) K X = K (.ret (.tup [.lst 2, .bool h, .int b])) (aρ [cur, .bool h, .lst 2, .int b]) (CSt pre rest (t, m) ex) := by kernel_rfl
end
end Mine
end

section
open PySem PySem.W PySem.Calls PyProof.Rows
namespace Mine
noncomputable def bE : PySem.Expr -> Nat -> PySem.Expr
  | .BoolOp _ es _, i => match es[i]? with
    | some e => e
    | none => .Constant .none 0 ⟨0, 0, 0, 0⟩
  | _, _ => .Constant .none 0 ⟨0, 0, 0, 0⟩
noncomputable def chk1 : PySem.Expr := bE (iC (nthS pB 4)) 0
noncomputable def chk2 : PySem.Expr := bE (iC (nthS pB 4)) 1
section
variable (n : Nat) (P : List V) (h : Bool) (b : Int) (x : Option V) (pre : List V) (rest : List (Tk × Int)) (t : Tk) (m : Int) (ex : Hp) (l : List V) (K : Fl -> Mine.Env -> Hp -> Prop) (X : List V -> Hp -> Prop) (PP : Bool -> Hp -> Prop)
noncomputable def orB (Q : Bool -> Hp -> Prop) : Bool -> Hp -> Prop := fun t σ => selB t (Q true σ) (Q false σ)
noncomputable def orA (T : Tab) (n : Nat) (c : PySem.Expr) (ρ : Mine.Env) (X : List V -> Hp -> Prop) (Q : Bool -> Hp -> Prop) : Bool -> Hp -> Prop := fun t σ => selB t (Q true σ) (evB T n c ρ σ (orB Q) X)
set_option tactic.hygienic false
theorem evB_or {T : Tab} {n : Nat} {e c1 c2 : PySem.Expr} {p : Pos} (he : e = .BoolOp .Or [c1, c2] p) (ρ : Mine.Env) (σ : Hp) (Q : Bool -> Hp -> Prop) (X : List V -> Hp -> Prop) : evB T (n + 4) e ρ σ Q X = evB T (n + 2) c1 ρ σ (orA T (n + 1) c2 ρ X Q) X := by
  subst he; rfl
noncomputable def bP : PySem.Expr -> Pos
  | .BoolOp _ _ p => p
  | _ => ⟨0, 0, 0, 0⟩
theorem p_chk (ρ : Mine.Env) (σ : Hp) : evS T0 (n + 121) (nthS pB 4) ρ σ K X = evB T0 (n + 118) chk1 ρ σ (orA T0 (n + 117) chk2 ρ X (ifK T0 (n + 120) (iA (nthS pB 4)) [] ρ K X)) X :=
  (evS_if (c := iC (nthS pB 4)) (a := iA (nthS pB 4)) (b := []) (p := iP (nthS pB 4)) (by kernel_rfl) _ _ _ _).trans (evB_or (c1 := chk1) (c2 := chk2) (p := bP (iC (nthS pB 4))) (by kernel_rfl) _ _ _ _)
theorem p_chk1 (t0 : Tk) : evB T0 (n + 118) chk1 (pρ (.str [113] :: P) h b x) (CSt pre rest (t0, m) [.list l]) PP X = (match cmpF (CSt pre rest (t0, m) [.list l]) .NotIn (.str [113]) (.lst 2) with
    | some t => PP t (CSt pre rest (t0, m) [.list l])
    | none => False) := by cases x <;> kernel_rfl
theorem p_chk2 : evB T0 (n + 117) chk2 (pρ P h b x) (CSt pre rest (t, m) [.list l]) PP X = evF T0 (n + 114) n_sorted [.lst 2] (CSt pre rest (t, m) [.list l]) (fun a σ₁ => evF T0 (n + 114) n_sorted [.vls P] σ₁ (fun b σ₂ => cmpW σ₂ .NotEq a b (boolOf PP)) X) X := by cases x <;> kernel_rfl
theorem p_fail : evSs T0 (n + 120) (iA (nthS pB 4)) (pρ P h b x) (CSt pre rest (t, m) ex) K X = X [.str q_prim, .int m, .str []] (CSt pre rest (t, m) ex) := by cases x <;> kernel_rfl
theorem ev_sorted (v : V) (σ : Hp) (Q : V -> Hp -> Prop) : evF T0 (n + 1) n_sorted [v] σ Q X = fSorted [v] σ Q := by kernel_rfl
end
end Mine
end

section
open PySem PySem.W PySem.Calls PyProof.Rows
namespace Mine
inductive St where
  | start
  | inName
  | held
  | out
  | inBehind
  | closing
  | late
  | outName
  | outBehind
  | figure
  | head
  | one
  | two
  | behind
  | given
  | lead
  | last
  | told
  | port
  | nextOne
  | more
  | done
noncomputable def stN : St -> N
  | .start => [115, 116, 97, 114, 116]
  | .inName => [105, 110, 95, 110, 97, 109, 101]
  | .held => [104, 101, 108, 100, 95, 110, 97, 109, 101]
  | .out => [111, 117, 116]
  | .inBehind => [105, 110, 95, 98, 101, 104, 105, 110, 100]
  | .closing => [99, 108, 111, 115, 105, 110, 103]
  | .late => [108, 97, 116, 101]
  | .outName => [111, 117, 116, 95, 110, 97, 109, 101]
  | .outBehind => [111, 117, 116, 95, 98, 101, 104, 105, 110, 100]
  | .figure => [102, 105, 103, 117, 114, 101]
  | .head => [104, 101, 97, 100]
  | .one => [111, 110, 101]
  | .two => [116, 119, 111]
  | .behind => [98, 101, 104, 105, 110, 100]
  | .given => [103, 105, 118, 101, 110]
  | .lead => [108, 101, 97, 100]
  | .last => [108, 97, 115, 116]
  | .told => [116, 111, 108, 100]
  | .port => [112, 111, 114, 116]
  | .nextOne => [110, 101, 120, 116, 95, 111, 110, 101]
  | .more => [109, 111, 114, 101]
  | .done => [100, 111, 110, 101]
noncomputable def allSt : List St := [.start, .inName, .held, .out, .inBehind, .closing, .late, .outName, .outBehind, .figure, .head, .one, .two, .behind, .given, .lead, .last, .told, .port, .nextOne, .more, .done]
noncomputable def stI : St -> Nat
  | .start => 0
  | .inName => 1
  | .held => 2
  | .out => 3
  | .inBehind => 4
  | .closing => 5
  | .late => 6
  | .outName => 7
  | .outBehind => 8
  | .figure => 9
  | .head => 10
  | .one => 11
  | .two => 12
  | .behind => 13
  | .given => 14
  | .lead => 15
  | .last => 16
  | .told => 17
  | .port => 18
  | .nextOne => 19
  | .more => 20
  | .done => 21
set_option tactic.hygienic false
theorem st_mem (s : St) : s ∈ allSt := List.mem_of_getElem? (i := stI s) (by cases s <;> rfl)
noncomputable def encB {α : Type} (b : Bool) (f : Bool -> α) : Option (α × α) × Option (Bool -> α) := match b with
  | true => (some (f true, f false), none)
  | false => (none, some f)
theorem encB_eq {α : Type} : ∀ {b : Bool} {f g : Bool -> α}, encB b f = encB b g -> f = g
  | false, _, _, h => Option.some.inj (Prod.mk.inj h).2
  | true, f, g, h => by
    obtain ⟨h1, h2⟩ := Prod.mk.inj (Option.some.inj (Prod.mk.inj h).1)
    funext b
    cases b
    · exact h2
    · exact h1
theorem stb_eq {α : Type} (I : Tk -> Bool) {F G : Tk -> St -> Bool -> α} (h : (tkL.map fun t => allSt.map fun s => encB (I t) (F t s)) = tkL.foldr (fun t r => allSt.foldr (fun s r => encB (I t) (G t s) :: r) [] :: r) []) (t : Tk) (s : St) : F t s = G t s :=
  encB_eq (zipL_eq (zipL_eq h t (tk_mem t)) s (st_mem s))
noncomputable def stp : St -> Tk -> Option St
  | .start, t => match t with
    | .kinp => some .inName
    | .kreg => some .held
    | .kout => some .out
    | _ => none
  | .inName, t => match t with
    | .iq => some .inBehind
    | .ia => some .inBehind
    | .ib => some .inBehind
    | .ic => some .inBehind
    | _ => none
  | .held, t => match t with
    | .iq => some .closing
    | .ia => some .late
    | .ib => some .late
    | .ic => some .late
    | _ => none
  | .out, t => match t with
    | .kreg => some .outName
    | .iq => some .outBehind
    | .ia => some .late
    | .ib => some .late
    | .ic => some .late
    | _ => none
  | .inBehind, t => match t with
    | .ocom => some .inName
    | .osem => some .start
    | _ => none
  | .closing, t => match t with
    | .osem => some .start
    | _ => none
  | .late, t => match t with
    | _ => none
  | .outName, t => match t with
    | .iq => some .outBehind
    | .ia => some .late
    | .ib => some .late
    | .ic => some .late
    | _ => none
  | .outBehind, t => match t with
    | .oeq => some .figure
    | .osem => some .start
    | _ => none
  | .figure, t => match t with
    | .s0 => some .closing
    | .s1 => some .closing
    | .s2 => some .closing
    | .s3 => some .closing
    | .s4 => some .closing
    | .s5 => some .closing
    | .s6 => some .closing
    | _ => none
  | .head, t => match t with
    | .kout => some .one
    | _ => none
  | .one, t => match t with
    | .kreg => some .two
    | .ia => some .behind
    | .ib => some .behind
    | .ic => some .behind
    | .iq => some .behind
    | _ => none
  | .two, t => match t with
    | .ia => some .behind
    | .ib => some .behind
    | .ic => some .behind
    | .iq => some .behind
    | _ => none
  | .behind, t => match t with
    | .oeq => some .given
    | .ocom => some .lead
    | .obrk => some .last
    | _ => none
  | .given, t => match t with
    | .s0 => some .told
    | .s1 => some .told
    | .s2 => some .told
    | .s3 => some .told
    | .s4 => some .told
    | .s5 => some .told
    | .s6 => some .told
    | _ => none
  | .lead, t => match t with
    | .kinp => some .port
    | _ => none
  | .last, t => match t with
    | .osem => some .done
    | _ => none
  | .told, t => match t with
    | .ocom => some .lead
    | .obrk => some .last
    | _ => none
  | .port, t => match t with
    | .ia => some .nextOne
    | .ib => some .nextOne
    | .ic => some .nextOne
    | .iq => some .nextOne
    | _ => none
  | .nextOne, t => match t with
    | .ocom => some .more
    | .obrk => some .last
    | _ => none
  | .more, t => match t with
    | .kinp => some .port
    | .ia => some .nextOne
    | .ib => some .nextOne
    | .ic => some .nextOne
    | .iq => some .nextOne
    | _ => none
  | .done, t => match t with
    | _ => none
inductive An where
  | err (k : N) (m : Int)
  | rd (m : Int) (ns : List N) (h : Bool) (b : Int)
noncomputable def stopA (s : St) (m : Int) (ns : List N) (h : Bool) (b : Int) : An := match s with
  | .start => .rd m ns h b
  | .done => .rd m ns h b
  | .figure => .err q_init m
  | .given => .err q_init m
  | .lead => .err q_prim m
  | _ => .err q_unex m
noncomputable def blk : Tk -> Bool -> Bool
  | .oeq, false => true
  | _, _ => false
noncomputable def addN (s : St) (t : Tk) (ns : List N) : List N := match s with
  | .held => ns
  | _ => match idN t with
    | some x => ns ++ [x]
    | none => ns
noncomputable def regB : Tk -> Bool -> Bool
  | .kreg, _ => true
  | _, h => h
noncomputable def sndB (t : Tk) (b : Int) : Int := match sndN t with
  | some c => c
  | none => b
noncomputable def isLate : St -> Bool
  | .late => true
  | _ => false
noncomputable def due : List (Tk × Int) -> St -> List N -> Bool -> Int -> An
  | [], _, _, _, _ => .err [] 0
  | p :: r, s, ns, h, b => match isLate s with
    | true => .err q_prim p.2
    | false => match stp s p.1 with
      | none => stopA s p.2 ns h b
      | some s' => match blk p.1 h with
        | true => stopA s p.2 ns h b
        | false => due r s' (addN s p.1 ns) (regB p.1 h) (sndB p.1 b)
noncomputable def E2 : List (Tk × Int) := [(.eof, -1), (.eof, -1)]
noncomputable def lst (p : Tk × Int) (rest : List (Tk × Int)) : List (Tk × Int) := p :: (rest ++ E2)
theorem due_next (rest : List (Tk × Int)) (s : St) (ns : List N) (h : Bool) (b : Int) : due (rest ++ E2) s ns h b = due (lst (hd_ rest) (tl_ rest)) s ns h b := by
  cases rest with
  | nil => cases s <;> rfl
  | cons p r => rfl
noncomputable def meas (p : Tk × Int) (rest : List (Tk × Int)) : Nat := rest.length + (match p.1 with
  | .eof => 0
  | _ => 1)
theorem meas_le (rest : List (Tk × Int)) : meas (hd_ rest) (tl_ rest) <= rest.length := by
  cases rest with
  | nil => exact Nat.le_refl _
  | cons p r =>
    obtain ⟨t, m⟩ := p
    simp only [meas, hd_, tl_, List.length_cons]
    split <;> omega
theorem strsOf_map : ∀ A : List N, strsOf (A.map .str) = some A
  | [] => rfl
  | a :: A => congrArg (consO (some a)) (strsOf_map A)
theorem sorted_ok {n : Nat} {v : V} {σ : Hp} {A : List N} {Q : V -> Hp -> Prop} {X : List V -> Hp -> Prop} (hi : items σ v = some (A.map .str)) (hl : A.length < 64) (h : ∀ B : List N, B.Perm A -> B.Pairwise (fun a b => ltN b a = false) -> Q (.vls (B.map .str)) σ) : evF T0 (n + 1) n_sorted [v] σ Q X := by
  rw [ev_sorted]
  show oP _ (items σ v)
  rw [hi]
  show oP _ (strsOf (A.map .str))
  rw [strsOf_map]
  exact ⟨by rw [List.length_map]; exact hl, h⟩
theorem veqs_strs (A : List N) : ∀ B : List N, veqs (A.map .str) (B.map .str) = true ↔ A = B := by
  induction A with
  | nil =>
    intro B
    cases B with
    | nil => exact ⟨fun _ => rfl, fun _ => rfl⟩
    | cons _ _ => exact ⟨fun h => tF h, fun h => by cases h⟩
  | cons a A ih =>
    intro B
    cases B with
    | nil => exact ⟨fun h => tF h, fun h => by cases h⟩
    | cons b B =>
      show (leq a b && veqs (A.map .str) (B.map .str)) = true ↔ _
      rw [Bool.and_eq_true, leq_iff, ih, List.cons.injEq]
theorem isDbs_strs (n : Nat) (A : List N) : isDbs (n + 1) (A.map .str) = true := by
  induction A with
  | nil => rfl
  | cons a A ih => exact ih
theorem isDb_strs (n : Nat) (A : List N) : isDb (n + 2) (.vls (A.map .str)) = true := isDbs_strs n A
theorem ifB_of {b : Bool} {P : Prop} (h : b = true) (p : P) : ifB b P := by subst h; exact p
theorem cmp_strs {σ : Hp} {A B : List N} {Q : V -> Hp -> Prop} (h : ∀ t, (t = true ↔ A ≠ B) -> Q (.bool t) σ) : cmpW σ .NotEq (.vls (A.map .str)) (.vls (B.map .str)) Q := by
  show eqW σ (.vls (A.map .str)) (.vls (B.map .str)) (fun t => Q (.bool (!t)) σ)
  refine ifB_of (isDb_strs 6 A) (ifB_of (isDb_strs 6 B) (h _ ?_))
  show (!veqs _ _) = true ↔ _
  rw [Bool.not_eq_true', <- Bool.not_eq_true, veqs_strs]
theorem sorted_eq {A B : List N} (hp : A.Perm B) (ha : A.Pairwise fun a b => ltN b a = false) (hb : B.Pairwise fun a b => ltN b a = false) : A = B := by
  refine List.Perm.eq_of_pairwise (fun a b _ _ h1 h2 => ?_) ha hb hp
  rw [ltN_lt] at h1 h2
  simp only [decide_eq_false_iff_not] at h1 h2
  exact List.le_antisymm (List.not_lt.mp h1) (List.not_lt.mp h2)
noncomputable def RP (P : List N) (a : An) (Q : V -> Hp -> Prop) (X : List V -> Hp -> Prop) : Prop := match a with
  | .err k m => ∀ σ d, X [.str k, .int m, d] σ
  | .rd m ns h b => (ns.Perm P -> ∀ pre rest t ex, Q (.tup [.bool h, .int b]) (CSt pre rest (t, m) ex)) /\ (¬ ns.Perm P -> ∀ σ d, X [.str q_prim, .int m, d] σ)
set_option backward.match.sparseCases false in
noncomputable def endK (Q : V -> Hp -> Prop) : Fl -> Mine.Env -> Hp -> Prop := fun fl _ σ' => match fl with
  | .ret v => Q v σ'
  | .next => Q .none σ'
  | _ => False
theorem ports_in (n : Nat) (P : List V) (σ : Hp) (Q : V -> Hp -> Prop) (X : List V -> Hp -> Prop) : evD T0 (n + 1) (fx (st 3)) [cur, .vls P] σ Q X = evSs T0 n pB ⟨(fx (st 3)).nm, (fx (st 3)).sc, (fx (st 3)).params, [cur, .vls P]⟩ σ (endK Q) X := by kernel_rfl
section
variable {P : List N} {h : Bool} {b : Int} {x : Option V} {pre : List V} {rest : List (Tk × Int)} {t : Tk} {m : Int} {ns : List N} {Q : V -> Hp -> Prop} {X : List V -> Hp -> Prop}
theorem ports_post (hn : ns.length <= 60) (hP : P.length + 1 <= 60) (H : RP ([113] :: P) (.rd m ns h b) Q X) : evSs T0 235 (dropS pB 4) (pρ (.str [113] :: P.map .str) h b x) (CSt pre rest (t, m) [.list (ns.map .str)]) (endK Q) X := by
  obtain ⟨h1, h2⟩ := H
  have fin : ns.Perm ([113] :: P) -> evSs T0 234 (dropS pB 5) (pρ (.str [113] :: P.map .str) h b x) (CSt pre rest (t, m) [.list (ns.map .str)]) (endK Q) X := fun hp => by
    refine ss_at pB 5 rfl (Eq.mpr (p_ret ..) ?_)
    exact h1 hp _ _ _ _
  refine ss_at pB 4 rfl (Eq.mpr (p_chk ..) (Eq.mpr (p_chk1 ..) ?_))
  have hc : cmpF (CSt pre rest (t, m) [.list (ns.map .str)]) .NotIn (.str [113]) (.lst 2) = some (!memN ns [113]) := by
    show (match strsOf (ns.map .str) with | some l' => some (!memN l' [113]) | none => none) = _
    rw [strsOf_map]
  rw [hc]
  cases hm : memN ns [113] with
  | false =>
    refine Eq.mpr (p_fail ..) (h2 (fun hp => ?_) _ _)
    have : [113] ∈ ns := hp.mem_iff.mpr (.head _)
    rw [memN_iff.mpr this] at hm
    cases hm
  | true =>
    refine Eq.mpr (p_chk2 ..) (sorted_ok (A := ns) rfl (by omega) fun A pA sA => sorted_ok (A := [113] :: P) rfl (by rw [List.length_cons]; omega) fun B pB_ sB => cmp_strs fun tt htt => ?_)
    cases tt with
    | true =>
      refine Eq.mpr (p_fail ..) (h2 (fun hp => ?_) _ _)
      exact htt.mp rfl (sorted_eq ((pA.trans hp).trans pB_.symm) sA sB)
    | false =>
      have e : A = B := Classical.byContradiction fun q => by have := htt.mpr q; cases this
      subst e
      exact fin (pA.symm.trans pB_)
end
end Mine
end

section
open PySem PySem.W PySem.Calls PyProof.Rows
namespace Mine
noncomputable def semiA (t : Tk) (m : Int) (rest : List (Tk × Int)) (ns : List N) (h : Bool) (b : Int) : An := match t with
  | .osem => due (rest ++ E2) .start ns h b
  | _ => .err q_unex m
noncomputable def whK (T : Tab) (n : Nat) (b : List Stmt) (Q : Fl -> Mine.Env -> Hp -> Prop) (X : List V -> Hp -> Prop) (I : Nat -> Mine.Env -> Hp -> Prop) (k : Nat) (ρ : Mine.Env) : Bool -> Hp -> Prop := fun t σ₁ => match t with
  | true => evSs T n b ρ σ₁ (fun f ρ₂ σ₂ => match f with
    | .next => ∃ k', k' < k /\ I k' ρ₂ σ₂
    | .cont => ∃ k', k' < k /\ I k' ρ₂ σ₂
    | .brk => Q .next ρ₂ σ₂
    | .ret v => Q (.ret v) ρ₂ σ₂) X
  | false => Q .next ρ σ₁
set_option tactic.hygienic false
theorem wh_at {T : Tab} {n : Nat} (W : Stmt) {pos : Pos} {ρ : Mine.Env} {σ : Hp} {Q : Fl -> Mine.Env -> Hp -> Prop} {X : List V -> Hp -> Prop} (e : W = .While (wC W) (wB W) [] pos) (I : Nat -> Mine.Env -> Hp -> Prop) (k : Nat) (h0 : I k ρ σ) (step : ∀ k ρ σ, I k ρ σ -> evB T n (wC W) ρ σ (whK T n (wB W) Q X I k ρ) X) : evS T (n + 1) W ρ σ Q X := by
  rw [e]; exact ⟨I, ⟨k, h0⟩, step⟩
theorem app_len {ns : List N} (h : ns.length <= 60) : Nat.blt (ns.map V.str).length 4096 = true := by
  rw [Nat.blt_eq]; simp; omega
theorem snoc_map (ns : List N) (s : N) : ns.map V.str ++ [V.str s] = (ns ++ [s]).map .str := by simp
section
variable {P : List N} {Q : V -> Hp -> Prop} {X : List V -> Hp -> Prop} {K : Fl -> Mine.Env -> Hp -> Prop} {k : Nat}
set_option tactic.hygienic true
theorem in_ok (hK : ∀ pre rest t m ns h b x, RP ([113] :: P) (semiA t m rest ns h b) Q X -> ns.length + meas (t, m) rest <= 60 -> meas (t, m) rest < k -> K .next (pρ (.str [113] :: P.map .str) h b x) (CSt pre rest (t, m) [.list (ns.map .str)]))
    {pre : List V} {rest : List (Tk × Int)} {t : Tk} {m : Int} {ns : List N} {h : Bool} {b : Int} {x : Option V} (H : RP ([113] :: P) (due (lst (t, m) rest) .inName ns h b) Q X) (hb : ns.length + meas (t, m) rest <= 60) (hk : meas (t, m) rest < k) :
    evSs T0 232 inA (pρ (.str [113] :: P.map .str) h b x) (CSt pre rest (t, m) [.list (ns.map .str)]) K X := by
  refine ss_first inA rfl (Eq.mpr (p_app ..) ?_)
  have loop : ∀ {pre : List V} {rest : List (Tk × Int)} {t : Tk} {m : Int} {ns : List N} {h : Bool} {b : Int} {x : Option V}, RP ([113] :: P) (due (lst (t, m) rest) .inBehind ns h b) Q X -> ns.length + meas (t, m) rest <= 60 -> meas (t, m) rest < k ->
      evSs T0 231 (dropS inA 1) (pρ (.str [113] :: P.map .str) h b x) (CSt pre rest (t, m) [.list (ns.map .str)]) K X := fun {pre rest t m ns h b x} H hb hk => by
    refine ss_at inA 1 rfl (wh_at (nthS inA 1) rfl (fun j ρ σ => ∃ pre rest t m ns h b x, ρ = pρ (.str [113] :: P.map .str) h b x /\ σ = CSt pre rest (t, m) [.list (ns.map .str)] /\ j = meas (t, m) rest /\ RP ([113] :: P) (due (lst (t, m) rest) .inBehind ns h b) Q X /\ ns.length + meas (t, m) rest <= 60 /\ meas (t, m) rest < k)
      _ ⟨pre, rest, t, m, ns, h, b, x, rfl, rfl, rfl, H, hb, hk⟩ fun j ρ σ hj => ?_)
    obtain ⟨pre, rest, t, m, ns, h, b, x, rfl, rfl, rfl, H, hb, hk⟩ := hj
    refine Eq.mpr (p_comma ..) ?_
    cases t
    case ocom =>
      obtain ⟨pre', e⟩ := adv_eq pre rest [.list (ns.map .str)]
      show whK T0 229 (wB (nthS inA 1)) _ X _ _ _ true (adv pre rest [.list (ns.map .str)])
      have H' : RP ([113] :: P) (due (rest ++ E2) .inName ns h b) Q X := H
      rw [due_next] at H'
      rw [e]
      have hm := meas_le rest
      have hk' : meas (.ocom, m) rest = rest.length + 1 := rfl
      rw [hk'] at hb hk ⊢
      generalize hd_ rest = p at H' hm ⊢
      generalize tl_ rest = rest' at H' hm ⊢
      obtain ⟨t', m'⟩ := p
      refine ss_first _ rfl (Eq.mpr (p_app2 ..) ?_)
      have good : ∀ s : N, RP ([113] :: P) (due (rest' ++ E2) .inBehind (ns ++ [s]) h b) Q X -> rest'.length + 1 <= rest.length -> ifB (Nat.blt (ns.map V.str).length 4096) (seqK T0 228 (dropS (wB (nthS inA 1)) 1) (fun f ρ₂ σ₂ => match f with
          | .next => ∃ k', k' < rest.length + 1 /\ ∃ pre rest t m ns h b x, ρ₂ = pρ (.str [113] :: P.map .str) h b x /\ σ₂ = CSt pre rest (t, m) [.list (ns.map .str)] /\ k' = meas (t, m) rest /\ RP ([113] :: P) (due (lst (t, m) rest) .inBehind ns h b) Q X /\ ns.length + meas (t, m) rest <= 60 /\ meas (t, m) rest < k
          | .cont => ∃ k', k' < rest.length + 1 /\ ∃ pre rest t m ns h b x, ρ₂ = pρ (.str [113] :: P.map .str) h b x /\ σ₂ = CSt pre rest (t, m) [.list (ns.map .str)] /\ k' = meas (t, m) rest /\ RP ([113] :: P) (due (lst (t, m) rest) .inBehind ns h b) Q X /\ ns.length + meas (t, m) rest <= 60 /\ meas (t, m) rest < k
          | .brk => seqK T0 230 (dropS inA 2) K X .next ρ₂ σ₂
          | .ret v => seqK T0 230 (dropS inA 2) K X (.ret v) ρ₂ σ₂) X .next (pρ (.str [113] :: P.map .str) h b x) (adv pre' rest' [.list (ns.map V.str ++ [.str s])])) := fun s G hl => by
        refine ifB_of (app_len (by omega)) (seq_next (ss_end _ 1 rfl ?_))
        rw [due_next] at G
        have hm' : meas ((hd_ rest').1, (hd_ rest').2) (tl_ rest') <= rest'.length := meas_le rest'
        obtain ⟨pre'', e'⟩ := adv_eq pre' rest' [.list (ns.map V.str ++ [.str s])]
        rw [e', snoc_map]
        exact ⟨_, by omega, pre'', tl_ rest', (hd_ rest').1, (hd_ rest').2, ns ++ [s], h, b, x, rfl, rfl, rfl, G, by rw [List.length_append]; show ns.length + 1 + _ <= _; omega, by omega⟩
      cases t'
      case ia => exact good _ H' hm
      case ib => exact good _ H' hm
      case ic => exact good _ H' hm
      case iq => exact good _ H' hm
      all_goals exact H' _ _
    all_goals exact seq_next (ss_end inA 2 rfl (hK _ _ _ _ _ _ _ _ H hb hk))
  have good : ∀ s : N, RP ([113] :: P) (due (rest ++ E2) .inBehind (ns ++ [s]) h b) Q X -> meas (t, m) rest = rest.length + 1 -> ifB (Nat.blt (ns.map V.str).length 4096) (seqK T0 231 (dropS inA 1) K X .next (pρ (.str [113] :: P.map .str) h b x) (adv pre rest [.list (ns.map V.str ++ [.str s])])) := fun s G hl => by
    refine ifB_of (app_len (by omega)) (seq_next ?_)
    rw [due_next] at G
    have hm' : meas ((hd_ rest).1, (hd_ rest).2) (tl_ rest) <= rest.length := meas_le rest
    obtain ⟨pre'', e'⟩ := adv_eq pre rest [.list (ns.map V.str ++ [.str s])]
    rw [e', snoc_map]
    exact loop (t := (hd_ rest).1) (m := (hd_ rest).2) G (by rw [List.length_append]; show ns.length + 1 + _ <= _; omega) (by omega)
  cases t
  case ia => exact good _ H rfl
  case ib => exact good _ H rfl
  case ic => exact good _ H rfl
  case iq => exact good _ H rfl
  all_goals exact H _ _
end
end Mine
end

section
open PySem PySem.W PySem.Calls PyProof.Rows
namespace Mine
set_option tactic.hygienic false
theorem at_closing (t : Tk) (m : Int) (rest : List (Tk × Int)) (ns : List N) (h : Bool) (b : Int) : due (lst (t, m) rest) .closing ns h b = semiA t m rest ns h b := by cases t <;> rfl
theorem at_outBehind (t : Tk) (m : Int) (rest : List (Tk × Int)) (ns : List N) (b : Int) : due (lst (t, m) rest) .outBehind ns false b = semiA t m rest ns false b := by cases t <;> rfl
theorem late_next (rest : List (Tk × Int)) (ns : List N) (h : Bool) (b : Int) : due (rest ++ E2) .late ns h b = .err q_prim (hd_ rest).2 := by
  cases rest <;> rfl
noncomputable def nameA (t : Tk) (m : Int) (rest : List (Tk × Int)) (ns : List N) (h : Bool) (b : Int) : An := match t with
  | .iq => due (rest ++ E2) .outBehind (ns ++ [[113]]) h b
  | .ia => .err q_prim (hd_ rest).2
  | .ib => .err q_prim (hd_ rest).2
  | .ic => .err q_prim (hd_ rest).2
  | _ => .err q_unex m
theorem at_outName (t : Tk) (m : Int) (rest : List (Tk × Int)) (ns : List N) (h : Bool) (b : Int) : due (lst (t, m) rest) .outName ns h b = nameA t m rest ns h b := by
  cases t <;> first | rfl | exact late_next ..
section
variable {P : List N} {Q : V -> Hp -> Prop} {X : List V -> Hp -> Prop} {K : Fl -> Mine.Env -> Hp -> Prop} {k : Nat}
noncomputable def Kok (P : List N) (Q : V -> Hp -> Prop) (X : List V -> Hp -> Prop) (K : Fl -> Mine.Env -> Hp -> Prop) (k : Nat) : Prop := ∀ pre rest t m ns h b x, RP ([113] :: P) (semiA t m rest ns h b) Q X -> ns.length + meas (t, m) rest <= 60 -> meas (t, m) rest < k -> K .next (pρ (.str [113] :: P.map .str) h b x) (CSt pre rest (t, m) [.list (ns.map .str)])
theorem Kok.mk (hK : Kok P Q X K k) {pre : List V} {rest : List (Tk × Int)} {ns : List N} {h : Bool} {b : Int} {x : Option V} (H : RP ([113] :: P) (semiA (hd_ rest).1 (hd_ rest).2 (tl_ rest) ns h b) Q X) (hb : ns.length + rest.length <= 60) (hk : rest.length < k) :
    K .next (pρ (.str [113] :: P.map .str) h b x) (adv pre rest [.list (ns.map .str)]) := by
  obtain ⟨pre', e⟩ := adv_eq pre rest [.list (ns.map .str)]
  have hm : meas ((hd_ rest).1, (hd_ rest).2) (tl_ rest) <= rest.length := meas_le rest
  rw [e]
  exact hK pre' (tl_ rest) (hd_ rest).1 (hd_ rest).2 ns h b x H (by omega) (by omega)
set_option tactic.hygienic true
theorem rg_ok (hK : Kok P Q X K k) {pre : List V} {rest : List (Tk × Int)} {t : Tk} {m : Int} {ns : List N} {h : Bool} {b : Int} {x : Option V} (H : RP ([113] :: P) (due (lst (t, m) rest) .held ns true b) Q X) (hb : ns.length + meas (t, m) rest <= 60) (hk : meas (t, m) rest < k) :
    evSs T0 230 rgB (pρ (.str [113] :: P.map .str) h b x) (CSt pre rest (t, m) [.list (ns.map .str)]) K X := by
  refine ss_first rgB rfl (Eq.mpr (p_seq ..) (seq_next (ss_at rgB 1 rfl (Eq.mpr (p_held ..) ?_))))
  have late : RP ([113] :: P) (due (rest ++ E2) .late ns true b) Q X -> X [.str q_prim, .int (hd_ rest).2, .str []] (adv pre rest [.list (ns.map .str)]) := fun G => by
    rw [late_next] at G
    exact G _ _
  cases t
  case iq =>
    have G : RP ([113] :: P) (due (rest ++ E2) .closing ns true b) Q X := H
    rw [due_next, at_closing] at G
    have e : meas (.iq, m) rest = rest.length + 1 := rfl
    rw [e] at hb hk
    exact seq_next (ss_end rgB 2 rfl (Kok.mk (ns := ns) hK G (by omega) (by omega)))
  case ia => exact late H
  case ib => exact late H
  case ic => exact late H
  all_goals exact H _ _
theorem o_tail (hK : Kok P Q X K k) {pre : List V} {rest : List (Tk × Int)} {t : Tk} {m : Int} {ns : List N} {h : Bool} {b : Int} {x : Option V} (H : RP ([113] :: P) (due (lst (t, m) rest) .outBehind ns h b) Q X) (hb : ns.length + meas (t, m) rest <= 60) (hk : meas (t, m) rest < k) :
    evSs T0 225 (dropS oB 5) (pρ (.str [113] :: P.map .str) h b x) (CSt pre rest (t, m) [.list (ns.map .str)]) K X := by
  refine ss_at oB 5 rfl ?_
  cases h with
  | false =>
    rw [at_outBehind] at H
    refine Eq.mpr (p_eq0 ..) (seq_next (ss_end oB 6 rfl ?_))
    exact hK _ _ _ _ _ _ _ _ H hb hk
  | true =>
    refine Eq.mpr (p_eq1 ..) ?_
    cases t
    case oeq =>
      have G : RP ([113] :: P) (due (rest ++ E2) .figure ns true b) Q X := H
      rw [due_next] at G
      obtain ⟨pre', e⟩ := adv_eq pre rest [.list (ns.map .str)]
      have hm := meas_le rest
      have hk' : meas (.oeq, m) rest = rest.length + 1 := rfl
      rw [hk'] at hb hk
      show evSs T0 223 (iA (nthS oB 5)) _ (adv pre rest [.list (ns.map .str)]) _ X
      rw [e]
      generalize hd_ rest = p at G hm ⊢
      generalize tl_ rest = rest' at G hm ⊢
      obtain ⟨t', m'⟩ := p
      refine ss_first _ rfl (Eq.mpr (p_init ..) (Eq.mpr (c_init 110 pre' rest' t' m' _ X _) ?_))
      have good : ∀ c, RP ([113] :: P) (due (rest' ++ E2) .closing ns true c) Q X -> meas (t', m') rest' = rest'.length + 1 -> seqK T0 222 (dropS (iA (nthS oB 5)) 1) (seqK T0 224 (dropS oB 6) K X) X .next ((pρ (.str [113] :: P.map .str) true b x).put (w_ "init") (.int c)) (adv pre' rest' [.list (ns.map .str)]) := fun c G he => by
        rw [due_next, at_closing] at G
        rw [put_init]
        exact seq_next (ss_end _ 1 rfl (seq_next (ss_end oB 6 rfl (Kok.mk (ns := ns) hK G (by omega) (by omega)))))
      cases t'
      case s0 => exact good _ G rfl
      case s1 => exact good _ G rfl
      case s2 => exact good _ G rfl
      case s3 => exact good _ G rfl
      case s4 => exact good _ G rfl
      case s5 => exact good _ G rfl
      case s6 => exact good _ G rfl
      all_goals exact G _ _
    all_goals exact seq_next (ss_end oB 6 rfl (hK _ _ _ _ _ _ _ _ H hb hk))
theorem o_name (hK : Kok P Q X K k) {pre : List V} {rest : List (Tk × Int)} {t : Tk} {m : Int} {ns : List N} {h : Bool} {b : Int} {x : Option V} (H : RP ([113] :: P) (nameA t m rest ns h b) Q X) (hb : ns.length + meas (t, m) rest <= 60) (hk : meas (t, m) rest < k) :
    evSs T0 228 (dropS oB 2) (pρ (.str [113] :: P.map .str) h b x) (CSt pre rest (t, m) [.list (ns.map .str)]) K X := by
  refine ss_at oB 2 rfl (Eq.mpr (p_name ..) ?_)
  obtain ⟨pre', e⟩ := adv_eq pre rest [.list (ns.map .str)]
  have hm : meas ((hd_ rest).1, (hd_ rest).2) (tl_ rest) <= rest.length := meas_le rest
  cases t
  case iq =>
    have G : RP ([113] :: P) (due (rest ++ E2) .outBehind (ns ++ [[113]]) h b) Q X := H
    rw [due_next] at G
    have hk' : meas (.iq, m) rest = rest.length + 1 := rfl
    rw [hk'] at hb hk
    show seqK T0 227 (dropS oB 3) K X .next (pρ _ h b (some (.str [113]))) (adv pre rest [.list (ns.map .str)])
    rw [e]
    refine seq_next (ss_at oB 3 rfl (Eq.mpr (p_isq (t := (hd_ rest).1) (m := (hd_ rest).2) ..) (seq_next (ss_at oB 4 rfl (Eq.mpr (p_add (t := (hd_ rest).1) (m := (hd_ rest).2) ..) (ifB_of (app_len (by omega)) (seq_next ?_)))))))
    rw [snoc_map]
    exact o_tail hK G (by rw [List.length_append]; show ns.length + 1 + _ <= _; omega) (by omega)
  case ia =>
    show seqK T0 227 (dropS oB 3) K X .next (pρ _ h b (some (.str [97]))) (adv pre rest [.list (ns.map .str)])
    rw [e]
    exact seq_next (ss_at oB 3 rfl (Eq.mpr (p_isa (t := (hd_ rest).1) (m := (hd_ rest).2) ..) (H _ _)))
  case ib =>
    show seqK T0 227 (dropS oB 3) K X .next (pρ _ h b (some (.str [98]))) (adv pre rest [.list (ns.map .str)])
    rw [e]
    exact seq_next (ss_at oB 3 rfl (Eq.mpr (p_isb (t := (hd_ rest).1) (m := (hd_ rest).2) ..) (H _ _)))
  case ic =>
    show seqK T0 227 (dropS oB 3) K X .next (pρ _ h b (some (.str [99]))) (adv pre rest [.list (ns.map .str)])
    rw [e]
    exact seq_next (ss_at oB 3 rfl (Eq.mpr (p_isc (t := (hd_ rest).1) (m := (hd_ rest).2) ..) (H _ _)))
  all_goals exact H _ _
theorem o_ok (hK : Kok P Q X K k) {pre : List V} {rest : List (Tk × Int)} {m : Int} {ns : List N} {h : Bool} {b : Int} {x : Option V} (H : RP ([113] :: P) (due (rest ++ E2) .out ns h b) Q X) (hb : ns.length + rest.length + 1 <= 60) (hk : rest.length < k) :
    evSs T0 230 oB (pρ (.str [113] :: P.map .str) h b x) (CSt pre rest (.kout, m) [.list (ns.map .str)]) K X := by
  refine ss_first oB rfl (Eq.mpr (p_out ..) ?_)
  rw [due_next] at H
  obtain ⟨pre', e⟩ := adv_eq pre rest [.list (ns.map .str)]
  rw [e]
  have hm := meas_le rest
  generalize hd_ rest = p at H hm ⊢
  generalize tl_ rest = rest' at H hm ⊢
  obtain ⟨t, m'⟩ := p
  refine seq_next (ss_at oB 1 rfl (Eq.mpr (p_oreg ..) ?_))
  have b1 : ns.length + meas (t, m') rest' <= 60 := by omega
  have b2 : meas (t, m') rest' < k := by omega
  clear hm hb hk
  cases t
  case kreg =>
    have G : RP ([113] :: P) (due (rest' ++ E2) .outName ns true b) Q X := H
    rw [due_next, at_outName] at G
    obtain ⟨pre'', e'⟩ := adv_eq pre' rest' [.list (ns.map .str)]
    show seqK T0 228 (dropS oB 2) K X .next (pρ _ true b x) (adv pre' rest' [.list (ns.map .str)])
    rw [e']
    have hk' : meas (.kreg, m') rest' = rest'.length + 1 := rfl
    have hm' : meas ((hd_ rest').1, (hd_ rest').2) (tl_ rest') <= rest'.length := meas_le rest'
    exact seq_next (o_name (t := (hd_ rest').1) (m := (hd_ rest').2) hK G (by omega) (by omega))
  case ia =>
    refine seq_next (o_name hK ?_ b1 b2)
    have G : RP ([113] :: P) (due (rest' ++ E2) .late (ns ++ [[97]]) h b) Q X := H
    rw [late_next] at G
    exact G
  case ib =>
    refine seq_next (o_name hK ?_ b1 b2)
    have G : RP ([113] :: P) (due (rest' ++ E2) .late (ns ++ [[98]]) h b) Q X := H
    rw [late_next] at G
    exact G
  case ic =>
    refine seq_next (o_name hK ?_ b1 b2)
    have G : RP ([113] :: P) (due (rest' ++ E2) .late (ns ++ [[99]]) h b) Q X := H
    rw [late_next] at G
    exact G
  all_goals exact seq_next (o_name hK H b1 b2)
theorem ports_sim {pre : List V} {rest : List (Tk × Int)} {p : Tk × Int} (hl : rest.length + 1 <= 60) (hP : P.length + 1 <= 60) (H : RP ([113] :: P) (due (lst p rest) .start [] false 3) Q X) :
    evD T0 240 (fx (st 3)) [cur, .vls (.str [113] :: P.map .str)] (CSt pre rest p []) Q X := by
  obtain ⟨t, m⟩ := p
  refine Eq.mpr (ports_in ..) (Eq.mpr (p_start 119 ..) ?_)
  refine ss_at pB 3 rfl (wh_at (nthS pB 3) rfl (fun j ρ σ => ∃ pre rest t m ns h b x, ρ = pρ (.str [113] :: P.map .str) h b x /\ σ = CSt pre rest (t, m) [.list (ns.map .str)] /\ j = meas (t, m) rest /\ RP ([113] :: P) (due (lst (t, m) rest) .start ns h b) Q X /\ ns.length + meas (t, m) rest <= 60)
    _ ⟨pre, rest, t, m, [], false, 3, none, rfl, rfl, rfl, H, by simp only [meas, List.length_nil]; split <;> omega⟩ fun j ρ σ hj => ?_)
  obtain ⟨pre, rest, t, m, ns, h, b, x, rfl, rfl, rfl, H, hb⟩ := hj
  refine Eq.mpr (p_cond ..) ?_
  have hn : ns.length <= 60 := by omega
  have hK : Kok P Q X (seqK T0 233 (dropS wpS 1) (fun f ρ₂ σ₂ => match f with
      | .next => ∃ k', k' < meas (t, m) rest /\ ∃ pre rest t m ns h b x, ρ₂ = pρ (.str [113] :: P.map .str) h b x /\ σ₂ = CSt pre rest (t, m) [.list (ns.map .str)] /\ k' = meas (t, m) rest /\ RP ([113] :: P) (due (lst (t, m) rest) .start ns h b) Q X /\ ns.length + meas (t, m) rest <= 60
      | .cont => ∃ k', k' < meas (t, m) rest /\ ∃ pre rest t m ns h b x, ρ₂ = pρ (.str [113] :: P.map .str) h b x /\ σ₂ = CSt pre rest (t, m) [.list (ns.map .str)] /\ k' = meas (t, m) rest /\ RP ([113] :: P) (due (lst (t, m) rest) .start ns h b) Q X /\ ns.length + meas (t, m) rest <= 60
      | .brk => seqK T0 235 (dropS pB 4) (endK Q) X .next ρ₂ σ₂
      | .ret v => seqK T0 235 (dropS pB 4) (endK Q) X (.ret v) ρ₂ σ₂) X) (meas (t, m) rest) := fun pre' rest' t' m' ns' h' b' x' G gb gk => by
    refine seq_next (ss_at wpS 1 rfl (Eq.mpr (p_semi ..) ?_))
    cases t'
    case osem =>
      have G' : RP ([113] :: P) (due (rest' ++ E2) .start ns' h' b') Q X := G
      rw [due_next] at G'
      obtain ⟨pre'', e⟩ := adv_eq pre' rest' [.list (ns'.map .str)]
      have hk' : meas (.osem, m') rest' = rest'.length + 1 := rfl
      have hm' : meas ((hd_ rest').1, (hd_ rest').2) (tl_ rest') <= rest'.length := meas_le rest'
      refine seq_next (ss_end wpS 2 rfl ?_)
      rw [e]
      exact ⟨_, by omega, pre'', tl_ rest', (hd_ rest').1, (hd_ rest').2, ns', h', b', x', rfl, rfl, rfl, G', by omega⟩
    all_goals exact G _ _
  cases t
  case kinp =>
    refine ss_first wpS rfl (Eq.mpr (p_input ..) ?_)
    have G : RP ([113] :: P) (due (rest ++ E2) .inName ns h b) Q X := H
    rw [due_next] at G
    obtain ⟨pre', e⟩ := adv_eq pre rest [.list (ns.map .str)]
    have hk' : meas (.kinp, m) rest = rest.length + 1 := rfl
    have hm' : meas ((hd_ rest).1, (hd_ rest).2) (tl_ rest) <= rest.length := meas_le rest
    show evSs T0 232 inA _ (adv pre rest [.list (ns.map .str)]) _ X
    rw [e]
    exact in_ok (t := (hd_ rest).1) (m := (hd_ rest).2) hK G (by omega) (by omega)
  case kreg =>
    refine ss_first wpS rfl (Eq.mpr (p_input ..) (ss_first _ rfl (Eq.mpr (p_reg ..) ?_)))
    have G : RP ([113] :: P) (due (rest ++ E2) .held ns true b) Q X := H
    rw [due_next] at G
    obtain ⟨pre', e⟩ := adv_eq pre rest [.list (ns.map .str)]
    have hk' : meas (.kreg, m) rest = rest.length + 1 := rfl
    have hm' : meas ((hd_ rest).1, (hd_ rest).2) (tl_ rest) <= rest.length := meas_le rest
    show evSs T0 230 rgB _ (adv pre rest [.list (ns.map .str)]) _ X
    rw [e]
    exact rg_ok (k := meas (.kreg, m) rest) (t := (hd_ rest).1) (m := (hd_ rest).2) (fun _ _ _ _ _ _ _ _ a1 a2 a3 => seq_next (ss_end _ 1 rfl (hK _ _ _ _ _ _ _ _ a1 a2 a3))) G (by omega) (by omega)
  case kout =>
    refine ss_first wpS rfl (Eq.mpr (p_input ..) (ss_first _ rfl (Eq.mpr (p_reg ..) ?_)))
    have hk' : meas (.kout, m) rest = rest.length + 1 := rfl
    exact o_ok (k := meas (.kout, m) rest) (fun _ _ _ _ _ _ _ _ a1 a2 a3 => seq_next (ss_end _ 1 rfl (hK _ _ _ _ _ _ _ _ a1 a2 a3))) H (by omega) (by omega)
  all_goals exact seq_next (ports_post hn hP H)
end
end Mine
end

section
open PySem PySem.W PySem.Calls PyProof.Rows
namespace Mine
noncomputable def RA (a : An) (Q : V -> Hp -> Prop) (X : List V -> Hp -> Prop) : Prop := match a with
  | .err k m => ∀ σ d, X [.str k, .int m, d] σ
  | .rd m ns h b => ∀ pre rest t, Q (.tup [.lst 2, .bool h, .int b]) (CSt pre rest (t, m) [.list (ns.map .str)])
set_option tactic.hygienic false
theorem ansi_in (n : Nat) (σ : Hp) (Q : V -> Hp -> Prop) (X : List V -> Hp -> Prop) : evD T0 (n + 1) (fx (st 2)) [cur] σ Q X = evSs T0 n aB ⟨(fx (st 2)).nm, (fx (st 2)).sc, (fx (st 2)).params, [cur]⟩ σ (endK Q) X := by kernel_rfl
noncomputable def slS : List N -> St
  | [_] => .lead
  | _ => .more
noncomputable def loopA (t : Tk) (m : Int) (rest : List (Tk × Int)) (ns : List N) (h : Bool) (b : Int) : An := match t with
  | .ocom => due (rest ++ E2) (slS ns) ns h b
  | .obrk => due (rest ++ E2) .last ns h b
  | _ => .err q_unex m
theorem at_told (t : Tk) (m : Int) (rest : List (Tk × Int)) (s : N) (h : Bool) (b : Int) : due (lst (t, m) rest) .told [s] h b = loopA t m rest [s] h b := by cases t <;> rfl
theorem at_behind (t : Tk) (m : Int) (rest : List (Tk × Int)) (s : N) (b : Int) : due (lst (t, m) rest) .behind [s] false b = loopA t m rest [s] false b := by cases t <;> rfl
theorem at_nextOne (t : Tk) (m : Int) (rest : List (Tk × Int)) (s s' : N) (ns : List N) (h : Bool) (b : Int) : due (lst (t, m) rest) .nextOne (s :: s' :: ns) h b = loopA t m rest (s :: s' :: ns) h b := by cases t <;> rfl
noncomputable def nameB (s : St) (t : Tk) (m : Int) (rest : List (Tk × Int)) (ns : List N) (h : Bool) (b : Int) : An := match idN t with
  | some x => due (rest ++ E2) s (ns ++ [x]) h b
  | none => .err q_unex m
theorem at_two (t : Tk) (m : Int) (rest : List (Tk × Int)) (ns : List N) (h : Bool) (b : Int) : due (lst (t, m) rest) .two ns h b = nameB .behind t m rest ns h b := by cases t <;> rfl
theorem at_port (t : Tk) (m : Int) (rest : List (Tk × Int)) (ns : List N) (h : Bool) (b : Int) : due (lst (t, m) rest) .port ns h b = nameB .nextOne t m rest ns h b := by cases t <;> rfl
theorem at_last (t : Tk) (m : Int) (rest : List (Tk × Int)) (ns : List N) (h : Bool) (b : Int) : due (lst (t, m) rest) .last ns h b = (match t with
    | .osem => due (rest ++ E2) .done ns h b
    | _ => .err q_unex m) := by cases t <;> rfl
theorem at_done (t : Tk) (m : Int) (rest : List (Tk × Int)) (ns : List N) (h : Bool) (b : Int) : due (lst (t, m) rest) .done ns h b = .rd m ns h b := by cases t <;> rfl
noncomputable def fA (h : Bool) (b : Int) : Mine.Env := aρ [cur, .bool h, .lst 2, .int b]
noncomputable def commaG (t : Tk) (A B : Prop) : Prop := match t with
  | .ocom => A
  | _ => B
set_option tactic.hygienic true
theorem comma_cases {t : Tk} {A B : Prop} (h1 : t = .ocom -> A) (h2 : t ≠ .ocom -> B) : commaG t A B := by
  cases t
  case ocom => exact h1 rfl
  all_goals exact h2 (fun e => by cases e)
noncomputable def kinpG (t : Tk) (A B : Prop) : Prop := match t with
  | .kinp => A
  | _ => B
theorem kinp_cases {t : Tk} {A B : Prop} (h1 : t = .kinp -> A) (h2 : t ≠ .kinp -> B) : kinpG t A B := by
  cases t
  case kinp => exact h1 rfl
  all_goals exact h2 (fun e => by cases e)
theorem lead_stop {t : Tk} (h : t ≠ .kinp) (m : Int) (rest : List (Tk × Int)) (ns : List N) (hh : Bool) (b : Int) : due (lst (t, m) rest) .lead ns hh b = .err q_prim m := by
  cases t
  case kinp => exact absurd rfl h
  all_goals rfl
theorem more_name {t : Tk} (h : t ≠ .kinp) (m : Int) (rest : List (Tk × Int)) (ns : List N) (hh : Bool) (b : Int) : due (lst (t, m) rest) .more ns hh b = nameB .nextOne t m rest ns hh b := by
  cases t
  case kinp => exact absurd rfl h
  all_goals rfl
section
variable {Q : V -> Hp -> Prop} {X : List V -> Hp -> Prop}
theorem a_end {pre : List V} {rest : List (Tk × Int)} {t : Tk} {m : Int} {ns : List N} {h : Bool} {b : Int} (H : RA (due (lst (t, m) rest) .last ns h b) Q X) : evSs T0 232 (dropS aB 7) (fA h b) (CSt pre rest (t, m) [.list (ns.map .str)]) (endK Q) X := by
  refine ss_at aB 7 rfl (Eq.mpr (a_semi ..) ?_)
  rw [at_last] at H
  cases t
  case osem =>
    have G : RA (due (rest ++ E2) .done ns h b) Q X := H
    rw [due_next, at_done] at G
    obtain ⟨pre', e⟩ := adv_eq pre rest [.list (ns.map .str)]
    show seqK T0 231 (dropS aB 8) (endK Q) X .next (fA h b) (adv pre rest [.list (ns.map .str)])
    rw [e]
    exact seq_next (ss_at aB 8 rfl (Eq.mpr (a_ret (t := (hd_ rest).1) (m := (hd_ rest).2) ..) (G _ _ _)))
  all_goals exact H _ _
theorem a_loop {pre : List V} {rest : List (Tk × Int)} {t : Tk} {m : Int} {ns : List N} {h : Bool} {b : Int} (hne : ns ≠ []) (hb : ns.length + meas (t, m) rest <= 60) (H : RA (loopA t m rest ns h b) Q X) :
    evSs T0 234 (dropS aB 5) (fA h b) (CSt pre rest (t, m) [.list (ns.map .str)]) (endK Q) X := by
  refine ss_at aB 5 rfl (wh_at (nthS aB 5) rfl (fun j ρ σ => ∃ pre rest t m ns, ρ = fA h b /\ σ = CSt pre rest (t, m) [.list (ns.map .str)] /\ j = meas (t, m) rest /\ ns ≠ [] /\ ns.length + meas (t, m) rest <= 60 /\ RA (loopA t m rest ns h b) Q X)
    _ ⟨pre, rest, t, m, ns, rfl, rfl, rfl, hne, hb, H⟩ fun j ρ σ hj => ?_)
  obtain ⟨pre, rest, t, m, ns, rfl, rfl, rfl, hne, hb, H⟩ := hj
  refine Eq.mpr (a_comma ..) (comma_cases (fun ht => ?_) fun ht => ?_)
  · subst ht
    have G : RA (due (rest ++ E2) (slS ns) ns h b) Q X := H
    rw [due_next] at G
    obtain ⟨pre', e⟩ := adv_eq pre rest [.list (ns.map .str)]
    have hk' : meas (.ocom, m) rest = rest.length + 1 := rfl
    have hm : meas ((hd_ rest).1, (hd_ rest).2) (tl_ rest) <= rest.length := meas_le rest
    rw [hk'] at hb ⊢
    show whK T0 232 aW _ X _ _ _ true (adv pre rest [.list (ns.map .str)])
    rw [e]
    generalize hd_ rest = p at G hm ⊢
    generalize tl_ rest = rest' at G hm ⊢
    obtain ⟨t, m'⟩ := p
    have hm : meas (t, m') rest' <= rest.length := hm
    refine ss_first aW rfl ?_
    have nm : ∀ {pre : List V} {rest₂ : List (Tk × Int)} {t : Tk} {m' : Int}, meas (t, m') rest₂ <= rest.length -> RA (nameB .nextOne t m' rest₂ ns h b) Q X -> evSs T0 231 (dropS aW 1) (fA h b) (CSt pre rest₂ (t, m') [.list (ns.map .str)]) (fun f ρ₂ σ₂ => match f with
        | .next => ∃ k', k' < rest.length + 1 /\ ∃ pre rest t m ns, ρ₂ = fA h b /\ σ₂ = CSt pre rest (t, m) [.list (ns.map .str)] /\ k' = meas (t, m) rest /\ ns ≠ [] /\ ns.length + meas (t, m) rest <= 60 /\ RA (loopA t m rest ns h b) Q X
        | .cont => ∃ k', k' < rest.length + 1 /\ ∃ pre rest t m ns, ρ₂ = fA h b /\ σ₂ = CSt pre rest (t, m) [.list (ns.map .str)] /\ k' = meas (t, m) rest /\ ns ≠ [] /\ ns.length + meas (t, m) rest <= 60 /\ RA (loopA t m rest ns h b) Q X
        | .brk => seqK T0 233 (dropS aB 6) (endK Q) X .next ρ₂ σ₂
        | .ret v => seqK T0 233 (dropS aB 6) (endK Q) X (.ret v) ρ₂ σ₂) X := fun {pre rest₂ t m'} hm G => by
      refine ss_at aW 1 rfl (Eq.mpr (a_app ..) ?_)
      have good : ∀ s : N, RA (due (rest₂ ++ E2) .nextOne (ns ++ [s]) h b) Q X -> rest₂.length + 1 <= rest.length -> ifB (Nat.blt (ns.map V.str).length 4096) (seqK T0 230 (dropS aW 2) (fun f ρ₂ σ₂ => match f with
        | .next => ∃ k', k' < rest.length + 1 /\ ∃ pre rest t m ns, ρ₂ = fA h b /\ σ₂ = CSt pre rest (t, m) [.list (ns.map .str)] /\ k' = meas (t, m) rest /\ ns ≠ [] /\ ns.length + meas (t, m) rest <= 60 /\ RA (loopA t m rest ns h b) Q X
        | .cont => ∃ k', k' < rest.length + 1 /\ ∃ pre rest t m ns, ρ₂ = fA h b /\ σ₂ = CSt pre rest (t, m) [.list (ns.map .str)] /\ k' = meas (t, m) rest /\ ns ≠ [] /\ ns.length + meas (t, m) rest <= 60 /\ RA (loopA t m rest ns h b) Q X
        | .brk => seqK T0 233 (dropS aB 6) (endK Q) X .next ρ₂ σ₂
        | .ret v => seqK T0 233 (dropS aB 6) (endK Q) X (.ret v) ρ₂ σ₂) X .next (fA h b) (adv pre rest₂ [.list (ns.map V.str ++ [.str s])])) := fun s G hl => by
        refine ifB_of (app_len (by omega)) (seq_next (ss_end aW 2 rfl ?_))
        rw [due_next] at G
        have hm' : meas ((hd_ rest₂).1, (hd_ rest₂).2) (tl_ rest₂) <= rest₂.length := meas_le rest₂
        obtain ⟨pre'', e'⟩ := adv_eq pre rest₂ [.list (ns.map V.str ++ [.str s])]
        rw [e', snoc_map]
        refine ⟨_, by omega, pre'', tl_ rest₂, (hd_ rest₂).1, (hd_ rest₂).2, ns ++ [s], rfl, rfl, rfl, by simp, by rw [List.length_append]; show ns.length + 1 + _ <= _; omega, ?_⟩
        match ns, hne, G with
        | [x], _, G => exact (at_nextOne (hd_ rest₂).1 (hd_ rest₂).2 (tl_ rest₂) x s [] h b) ▸ G
        | x :: y :: r, _, G => exact (at_nextOne (hd_ rest₂).1 (hd_ rest₂).2 (tl_ rest₂) x y (r ++ [s]) h b) ▸ G
      cases t
      case ia => exact good _ G hm
      case ib => exact good _ G hm
      case ic => exact good _ G hm
      case iq => exact good _ G hm
      all_goals exact G _ _
    have inp : t = .kinp -> ∀ s, due (lst (t, m') rest') s ns h b = due (rest' ++ E2) .port ns h b -> RA (due (lst (t, m') rest') s ns h b) Q X -> ∃ pre'', adv pre' rest' [.list (ns.map V.str)] = CSt pre'' (tl_ rest') ((hd_ rest').1, (hd_ rest').2) [.list (ns.map .str)] /\ meas ((hd_ rest').1, (hd_ rest').2) (tl_ rest') <= rest.length /\ RA (nameB .nextOne (hd_ rest').1 (hd_ rest').2 (tl_ rest') ns h b) Q X := fun ht s he G => by
      subst ht
      rw [he, due_next] at G
      have hk' : meas (.kinp, m') rest' = rest'.length + 1 := rfl
      have hm' : meas ((hd_ rest').1, (hd_ rest').2) (tl_ rest') <= rest'.length := meas_le rest'
      obtain ⟨pre'', e'⟩ := adv_eq pre' rest' [.list (ns.map .str)]
      exact ⟨pre'', e', by omega, (at_port (hd_ rest').1 (hd_ rest').2 (tl_ rest') ns h b) ▸ G⟩
    rcases ns with _ | ⟨x, _ | ⟨y, r⟩⟩
    · exact absurd rfl hne
    · refine Eq.mpr (a_inp1 ..) (kinp_cases (fun ht => ?_) fun ht => ?_)
      · obtain ⟨pre'', e', h1, h2⟩ := inp ht .lead (by subst ht; rfl) G
        refine seq_next ?_
        show evSs T0 231 _ _ (adv pre' rest' [.list ([x].map V.str)]) _ X
        rw [e']
        exact nm h1 h2
      · have G' : RA (due (lst (t, m') rest') .lead [x] h b) Q X := G
        rw [lead_stop ht] at G'
        exact G' _ _
    · refine Eq.mpr (a_inp2 ..) (kinp_cases (fun ht => ?_) fun ht => ?_)
      · obtain ⟨pre'', e', h1, h2⟩ := inp ht .more (by subst ht; rfl) G
        refine seq_next ?_
        show evSs T0 231 _ _ (adv pre' rest' [.list ((x :: y :: r).map V.str)]) _ X
        rw [e']
        exact nm h1 h2
      · have G' : RA (due (lst (t, m') rest') .more (x :: y :: r) h b) Q X := G
        rw [more_name ht] at G'
        exact seq_next (nm hm G')
  · show seqK T0 233 (dropS aB 6) (endK Q) X .next (fA h b) (CSt pre rest (t, m) [.list (ns.map .str)])
    refine seq_next (ss_at aB 6 rfl (Eq.mpr (a_brk ..) ?_))
    cases t
    case obrk =>
      have G : RA (due (rest ++ E2) .last ns h b) Q X := H
      rw [due_next] at G
      obtain ⟨pre', e⟩ := adv_eq pre rest [.list (ns.map .str)]
      show seqK T0 232 (dropS aB 7) (endK Q) X .next (fA h b) (adv pre rest [.list (ns.map .str)])
      rw [e]
      exact seq_next (a_end (t := (hd_ rest).1) (m := (hd_ rest).2) G)
    case ocom => exact absurd rfl ht
    all_goals exact H _ _
end
end Mine
end

section
open PySem PySem.W PySem.Calls PyProof.Rows
namespace Mine
section
variable {Q : V -> Hp -> Prop} {X : List V -> Hp -> Prop}
theorem a_four {pre : List V} {rest : List (Tk × Int)} {t : Tk} {m : Int} {s : N} {h : Bool} (hb : 1 + meas (t, m) rest <= 60) (H : RA (due (lst (t, m) rest) .behind [s] h 3) Q X) :
    evSs T0 235 (dropS aB 4) (fA h 3) (CSt pre rest (t, m) [.list ([s].map .str)]) (endK Q) X := by
  refine ss_at aB 4 rfl ?_
  cases h with
  | false =>
    rw [at_behind] at H
    exact Eq.mpr (a_eq0 ..) (seq_next (a_loop (by simp) hb H))
  | true =>
    refine Eq.mpr (a_eq1 ..) ?_
    have other : ∀ {t : Tk}, 1 + meas (t, m) rest <= 60 -> RA (loopA t m rest [s] true 3) Q X -> seqK T0 234 (dropS aB 5) (endK Q) X .next (fA true 3) (CSt pre rest (t, m) [.list ([s].map .str)]) := fun hb G => seq_next (a_loop (by simp) hb G)
    cases t
    case oeq =>
      have G : RA (due (rest ++ E2) .given [s] true 3) Q X := H
      rw [due_next] at G
      obtain ⟨pre', e⟩ := adv_eq pre rest [.list ([s].map .str)]
      have hm := meas_le rest
      have hk' : meas (.oeq, m) rest = rest.length + 1 := rfl
      rw [hk'] at hb
      show evSs T0 233 (iA (nthS aB 4)) _ (adv pre rest [.list ([s].map .str)]) _ X
      rw [e]
      generalize hd_ rest = p at G hm ⊢
      generalize tl_ rest = rest' at G hm ⊢
      obtain ⟨t', m'⟩ := p
      refine ss_first _ rfl (Eq.mpr (a_init ..) (Eq.mpr (c_init 120 pre' rest' t' m' _ X _) ?_))
      have good : ∀ c, RA (due (rest' ++ E2) .told [s] true c) Q X -> meas (t', m') rest' = rest'.length + 1 -> seqK T0 232 (dropS (iA (nthS aB 4)) 1) (seqK T0 234 (dropS aB 5) (endK Q) X) X .next (aρ [cur, .bool true, .lst 2, .int c]) (adv pre' rest' [.list ([s].map .str)]) := fun c G he => by
        rw [due_next] at G
        have hm' : meas ((hd_ rest').1, (hd_ rest').2) (tl_ rest') <= rest'.length := meas_le rest'
        obtain ⟨pre'', e'⟩ := adv_eq pre' rest' [.list ([s].map .str)]
        rw [e']
        have G' : RA (loopA (hd_ rest').1 (hd_ rest').2 (tl_ rest') [s] true c) Q X := by rw [<- at_told]; exact G
        exact seq_next (ss_end _ 1 rfl (seq_next (a_loop (t := (hd_ rest').1) (m := (hd_ rest').2) (h := true) (b := c) (ns := [s]) (by simp) (by show 1 + _ <= 60; omega) G')))
      cases t'
      case s0 => exact good _ G rfl
      case s1 => exact good _ G rfl
      case s2 => exact good _ G rfl
      case s3 => exact good _ G rfl
      case s4 => exact good _ G rfl
      case s5 => exact good _ G rfl
      case s6 => exact good _ G rfl
      all_goals exact G _ _
    all_goals exact other hb H
theorem a_nm {pre : List V} {rest : List (Tk × Int)} {t : Tk} {m : Int} {h : Bool} (hb : meas (t, m) rest <= 59) (H : RA (nameB .behind t m rest [] h 3) Q X) :
    evSs T0 237 (dropS aB 2) (aρ [cur, .bool h]) (CSt pre rest (t, m) []) (endK Q) X := by
  refine ss_at aB 2 rfl (Eq.mpr (a_first ..) ?_)
  have good : ∀ s : N, RA (due (rest ++ E2) .behind [s] h 3) Q X -> rest.length + 1 <= 59 -> seqK T0 236 (dropS aB 3) (endK Q) X .next (aρ [cur, .bool h, .lst 2]) (adv pre rest [.list [.str s]]) := fun s G hl => by
    rw [due_next] at G
    have hm' : meas ((hd_ rest).1, (hd_ rest).2) (tl_ rest) <= rest.length := meas_le rest
    obtain ⟨pre', e⟩ := adv_eq pre rest [.list [.str s]]
    rw [e]
    exact seq_next (ss_at aB 3 rfl (Eq.mpr (a_three (t := (hd_ rest).1) (m := (hd_ rest).2) ..) (seq_next (a_four (s := s) (by omega) G))))
  cases t
  case ia => exact good _ H hb
  case ib => exact good _ H hb
  case ic => exact good _ H hb
  case iq => exact good _ H hb
  all_goals exact H _ _
theorem at_one {t : Tk} (h : t ≠ .kreg) (m : Int) (rest : List (Tk × Int)) (b : Int) : due (lst (t, m) rest) .one [] false b = nameB .behind t m rest [] false b := by
  cases t
  case kreg => exact absurd rfl h
  all_goals rfl
theorem ansi_simT {pre : List V} {rest : List (Tk × Int)} {t : Tk} {m : Int} (hl : rest.length + 1 <= 58) (H : RA (due (lst (t, m) rest) .head [] false 3) Q X) : evD T0 240 (fx (st 2)) [cur] (CSt pre rest (t, m) []) Q X := by
  refine Eq.mpr (ansi_in ..) ?_
  rw [a_params]
  refine ss_first aB rfl (Eq.mpr (a_out ..) ?_)
  cases t
  case kout =>
    have G : RA (due (rest ++ E2) .one [] false 3) Q X := H
    rw [due_next] at G
    obtain ⟨pre', e⟩ := adv_eq pre rest []
    have hm : meas ((hd_ rest).1, (hd_ rest).2) (tl_ rest) <= rest.length := meas_le rest
    show seqK T0 238 (dropS aB 1) (endK Q) X .next (aρ [cur]) (adv pre rest [])
    rw [e]
    generalize hd_ rest = p at G hm ⊢
    generalize tl_ rest = rest' at G hm ⊢
    obtain ⟨t', m'⟩ := p
    have hm : meas (t', m') rest' <= rest.length := hm
    refine seq_next (ss_at aB 1 rfl (Eq.mpr (a_reg ..) ?_))
    have other : t' ≠ .kreg -> seqK T0 237 (dropS aB 2) (endK Q) X .next (aρ [cur, .bool false]) (CSt pre' rest' (t', m') []) := fun ht => by
      rw [at_one ht] at G
      exact seq_next (a_nm (by omega) G)
    cases t'
    case kreg =>
      have G' : RA (due (rest' ++ E2) .two [] true 3) Q X := G
      rw [due_next] at G'
      obtain ⟨pre'', e'⟩ := adv_eq pre' rest' []
      have hk' : meas (.kreg, m') rest' = rest'.length + 1 := rfl
      have hm' : meas ((hd_ rest').1, (hd_ rest').2) (tl_ rest') <= rest'.length := meas_le rest'
      show seqK T0 237 (dropS aB 2) (endK Q) X .next (aρ [cur, .bool true]) (adv pre' rest' [])
      rw [e']
      have G2 : RA (nameB .behind (hd_ rest').1 (hd_ rest').2 (tl_ rest') [] true 3) Q X := by rw [<- at_two]; exact G'
      exact seq_next (a_nm (t := (hd_ rest').1) (m := (hd_ rest').2) (by omega) G2)
    all_goals exact other (fun e => by cases e)
  all_goals exact H _ _
set_option tactic.hygienic false
theorem ansi_sim {pre : List V} {rest : List (Tk × Int)} {p : Tk × Int} (hl : rest.length + 1 <= 58) (H : RA (due (lst p rest) .head [] false 3) Q X) : evD T0 240 (fx (st 2)) [cur] (CSt pre rest p []) Q X := ansi_simT (t := p.1) (m := p.2) hl H
end
end Mine
end

section
open PySem PySem.W PySem.Calls PyProof.Rows
namespace Mine
noncomputable def fT : Stmt -> PySem.Expr
  | .For t _ _ _ _ => t
  | _ => .Constant .none 0 ⟨0, 0, 0, 0⟩
noncomputable def dB : List Stmt := (fx (st 23)).body
noncomputable def dT : PySem.Expr := fT (nthS dB 3)
noncomputable def dL : List Stmt := fB (nthS dB 3)
noncomputable abbrev q_read : N := [114, 101, 97, 100]
noncomputable def firstN : St -> N
  | .start => [113]
  | .inName => [113]
  | .held => [113]
  | .out => [113]
  | .inBehind => [113]
  | .closing => [113]
  | .late => [113]
  | .outName => [113]
  | .outBehind => [113]
  | .figure => [113]
  | _ => []
noncomputable def wordN (s : St) : Tk -> N
  | .kout => [111, 117, 116, 112, 117, 116]
  | .kreg => [114, 101, 103]
  | .kinp => [105, 110, 112, 117, 116]
  | .ktab => [116, 97, 98, 108, 101]
  | .kini => [105, 110, 105, 116, 105, 97, 108]
  | .oeq => [101, 113, 117, 97, 108, 115]
  | .ocom => [99, 111, 109, 109, 97]
  | .osem => [101, 110, 100]
  | .obrk => [98, 114, 97, 99, 107, 101, 116]
  | .iq => match firstN s with
    | [] => [110, 97, 109, 101]
    | _ => [102, 105, 114, 115, 116]
  | t => match idN t with
    | some _ => [110, 97, 109, 101]
    | none => match sndN t with
      | some _ => [115, 111, 117, 110, 100]
      | none => [111, 116, 104, 101, 114]
noncomputable def dK7 : List N := [w_ "moves", w_ "row", w_ "first", w_ "now", w_ "names", w_ "held", w_ "begin"]
noncomputable def dK12 : List N := [w_ "moves", w_ "row", w_ "first", w_ "now", w_ "names", w_ "held", w_ "begin", w_ "kind", w_ "value", w_ "mark", w_ "word", w_ "after"]
noncomputable def dρ (rv fv : V) (s : St) (h : Bool) (b : Int) (x : Option (V × V × V × V × V)) : Mine.Env := match x with
  | none => ⟨(fx (st 23)).nm, (fx (st 23)).sc, dK7, [.dct mvN, rv, fv, .str (stN s), .lst 0, .bool h, .int b]⟩
  | some (k, v, m, w, a) => ⟨(fx (st 23)).nm, (fx (st 23)).sc, dK12, [.dct mvN, rv, fv, .str (stN s), .lst 0, .bool h, .int b, k, v, m, w, a]⟩
noncomputable def retK (R : V -> Hp -> Prop) (Nx Ct Bk : Mine.Env -> Hp -> Prop) : Fl -> Mine.Env -> Hp -> Prop := fun f ρ σ => match f with
  | .next => Nx ρ σ
  | .brk => Bk ρ σ
  | .cont => Ct ρ σ
  | .ret v => R v σ
noncomputable def stopV (s : St) (m : Int) (h : Bool) (b : Int) : V := match stopA s m [] h b with
  | .err k m => .tup [.str k, .int m]
  | .rd m _ h b => .tup [.str q_read, .int m, .lst 0, .bool h, .int b]
noncomputable def addG (s : St) (t : Tk) (l : List V) (P : List V -> Prop) : Prop := match s with
  | .held => P l
  | _ => match idN t with
    | some x => ifB (Nat.blt l.length 4096) (P (l ++ [.str x]))
    | none => P l
noncomputable def stepP (rv : V) (s : St) (h : Bool) (b : Int) (t : Tk) (m : Int) (l : List V) (R : V -> Hp -> Prop) (Nx : Mine.Env -> Hp -> Prop) : Prop := match isLate s with
  | true => R (.tup [.str q_prim, .int m]) [.list l]
  | false => match stp s t with
    | none => R (stopV s m h b) [.list l]
    | some s' => match blk t h with
      | true => R (stopV s m h b) [.list l]
      | false => addG s t l fun l' => Nx (dρ rv (.str (firstN s)) s' (regB t h) (sndB t b) (some (.str (kd t), vl t, .int m, .str (wordN s t), .str (stN s')))) [.list l']
section
variable (n : Nat) (rv : V) (s : St) (h : Bool) (b : Int) (t : Tk) (m : Int) (l : List V) (R : V -> Hp -> Prop) (Nx Ct Bk : Mine.Env -> Hp -> Prop) (X : List V -> Hp -> Prop)
theorem d_first1 : evA T0 (n + 100) dT (plV (t, m)) (dρ rv (.str (firstN .start)) .start h b none) [.list l] (fun ρ₂ σ₂ => evSs T0 (n + 100) dL ρ₂ σ₂ (retK R Nx Ct Bk) X) X = stepP rv .start h b t m l R Nx := by
  cases t
  case oeq => cases h <;> kernel_rfl
  all_goals kernel_rfl
theorem d_first2 : evA T0 (n + 100) dT (plV (t, m)) (dρ rv (.str (firstN .head)) .head h b none) [.list l] (fun ρ₂ σ₂ => evSs T0 (n + 100) dL ρ₂ σ₂ (retK R Nx Ct Bk) X) X = stepP rv .head h b t m l R Nx := by
  cases t
  case oeq => cases h <;> kernel_rfl
  all_goals kernel_rfl
noncomputable def dTF (n : Nat) (rv : V) (b : Int) (m : Int) (l : List V) (R : V -> Hp -> Prop) (Nx Ct Bk : Mine.Env -> Hp -> Prop) (X : List V -> Hp -> Prop) (x0 x1 x2 x3 x4 : V) (t : Tk) (s : St) (h : Bool) : Prop := evA T0 (n + 100) dT (plV (t, m)) (dρ rv (.str (firstN s)) s h b (some (x0, x1, x2, x3, x4))) [.list l] (fun ρ₂ σ₂ => evSs T0 (n + 100) dL ρ₂ σ₂ (retK R Nx Ct Bk) X) X
noncomputable def dTG (rv : V) (b : Int) (m : Int) (l : List V) (R : V -> Hp -> Prop) (Nx : Mine.Env -> Hp -> Prop) (t : Tk) (s : St) (h : Bool) : Prop := stepP rv s h b t m l R Nx
set_option tactic.hygienic false
theorem d_turn (x0 x1 x2 x3 x4 : V) : evA T0 (n + 100) dT (plV (t, m)) (dρ rv (.str (firstN s)) s h b (some (x0, x1, x2, x3, x4))) [.list l] (fun ρ₂ σ₂ => evSs T0 (n + 100) dL ρ₂ σ₂ (retK R Nx Ct Bk) X) X = stepP rv s h b t m l R Nx :=
  congrFun (stb_eq is_oeq (F := dTF n rv b m l R Nx Ct Bk X x0 x1 x2 x3 x4) (G := dTG rv b m l R Nx) (by kernel_rfl) t s) h
end
end Mine
end

section
open PySem PySem.W PySem.Calls PyProof.Rows
namespace Mine
noncomputable def Fz : Mine.Env -> Hp -> Prop := fun _ _ => False
noncomputable def bdD (n : Nat) (X : List V -> Hp -> Prop) : V -> Mine.Env -> Hp -> (Fl -> Mine.Env -> Hp -> Prop) -> Prop := fun v ρ' σ' Q' => evA T0 n dT v ρ' σ' (fun ρ₂ σ₂ => evSs T0 n dL ρ₂ σ₂ Q' X) X
set_option tactic.hygienic false
theorem forL_step (n : Nat) (X : List V -> Hp -> Prop) (R : V -> Hp -> Prop) (Nx : Mine.Env -> Hp -> Prop) (v : V) (r : List V) (ρ : Mine.Env) (σ : Hp) : forL (bdD n X) (retK R Nx Fz Fz) (v :: r) ρ σ = evA T0 n dT v ρ σ (fun ρ₂ σ₂ => evSs T0 n dL ρ₂ σ₂ (retK R (forL (bdD n X) (retK R Nx Fz Fz) r) (forL (bdD n X) (retK R Nx Fz Fz) r) Nx) X) X := by kernel_rfl
noncomputable def OUT (a : An) (R : V -> Hp -> Prop) : Prop := match a with
  | .err k m => ∀ l, R (.tup [.str k, .int m]) [.list l]
  | .rd m ns h b => R (.tup [.str q_read, .int m, .lst 0, .bool h, .int b]) [.list (ns.map .str)]
theorem out_stop {s : St} {m : Int} {ns : List N} {h : Bool} {b : Int} {R : V -> Hp -> Prop} (H : OUT (stopA s m ns h b) R) : R (stopV s m h b) [.list (ns.map .str)] := by
  cases s <;> first | exact H | exact H _
set_option tactic.hygienic true
theorem addG_of {s : St} {t : Tk} {ns : List N} {P : List V -> Prop} (hl : ns.length <= 4000) (h : P ((addN s t ns).map .str)) : addG s t (ns.map .str) P := by
  have hb : Nat.blt (ns.map V.str).length 4096 = true := by rw [Nat.blt_eq]; simp; omega
  have key : ∀ {x : Option N}, P ((match x with | some x => ns ++ [x] | none => ns).map .str) -> (match x with
      | some x => ifB (Nat.blt (ns.map V.str).length 4096) (P (ns.map .str ++ [.str x]))
      | none => P (ns.map .str)) := fun {x} h => by
    cases x with
    | none => exact h
    | some x => exact ifB_of hb (by rw [snoc_map]; exact h)
  cases s
  case held => exact h
  all_goals exact key h
noncomputable def fsF (s : St) (t : Tk) : Bool := match stp s t with
  | none => true
  | some s' => leq (firstN s') (firstN s)
noncomputable abbrev allTk : List Tk := tkL
set_option tactic.hygienic false
theorem first_all : (allSt.all fun s => allTk.all fun t => fsF s t) = true := by kernel_rfl
theorem first_chk (s : St) (t : Tk) : fsF s t = true := List.all_eq_true.mp (List.all_eq_true.mp first_all s (st_mem s)) t (tk_mem t)
theorem first_stp {s s' : St} {t : Tk} (h : stp s t = some s') : firstN s' = firstN s := by
  have e : fsF s t = true := first_chk s t
  unfold fsF at e
  rw [h] at e
  exact leq_iff.mp e
set_option tactic.hygienic true
theorem addN_len (s : St) (t : Tk) (ns : List N) : (addN s t ns).length <= ns.length + 1 := by
  have key : ∀ {x : Option N}, (match x with | some x => ns ++ [x] | none => ns).length <= ns.length + 1 := fun {x} => by
    cases x <;> simp
  cases s
  case held => exact Nat.le_succ _
  all_goals exact key
set_option tactic.hygienic false
theorem turn_any (n : Nat) (rv : V) (s : St) (h : Bool) (b : Int) (x : Option (V × V × V × V × V)) (hx : x = none -> s = .start \/ s = .head) (t : Tk) (m : Int) (l : List V) (R : V -> Hp -> Prop) (Nx Ct Bk : Mine.Env -> Hp -> Prop) (X : List V -> Hp -> Prop) :
    evA T0 (n + 100) dT (plV (t, m)) (dρ rv (.str (firstN s)) s h b x) [.list l] (fun ρ₂ σ₂ => evSs T0 (n + 100) dL ρ₂ σ₂ (retK R Nx Ct Bk) X) X = stepP rv s h b t m l R Nx := by
  cases x with
  | none =>
    rcases hx rfl with rfl | rfl
    · exact d_first1 ..
    · exact d_first2 ..
  | some x => obtain ⟨x0, x1, x2, x3, x4⟩ := x; exact d_turn ..
theorem due_run (n : Nat) (rv : V) (X : List V -> Hp -> Prop) (R : V -> Hp -> Prop) (Nx : Mine.Env -> Hp -> Prop) : ∀ (r : List (Tk × Int)) (s : St) (h : Bool) (b : Int) (x : Option (V × V × V × V × V)) (ns : List N), (x = none -> s = .start \/ s = .head) -> ns.length + r.length <= 4000 ->
    OUT (due (r ++ E2) s ns h b) R -> forL (bdD (n + 100) X) (retK R Nx Fz Fz) ((r ++ E2).map plV) (dρ rv (.str (firstN s)) s h b x) [.list (ns.map .str)]
  | [], s, h, b, x, ns, hx, hl, H => by
    show forL (bdD (n + 100) X) (retK R Nx Fz Fz) (plV (.eof, -1) :: [plV (.eof, -1)]) _ _
    rw [forL_step, turn_any n rv s h b x hx]
    have e : stp s .eof = none := by cases s <;> rfl
    have H' : OUT (due ((.eof, -1) :: [(.eof, -1)]) s ns h b) R := H
    simp only [due, e] at H'
    unfold stepP
    rw [e]
    cases hl : isLate s with
    | true => rw [hl] at H'; exact H' _
    | false => rw [hl] at H'; exact out_stop H'
  | p :: r, s, h, b, x, ns, hx, hl, H => by
    obtain ⟨t, m⟩ := p
    show forL (bdD (n + 100) X) (retK R Nx Fz Fz) (plV (t, m) :: (r ++ E2).map plV) _ _
    rw [forL_step, turn_any n rv s h b x hx]
    have H' : OUT (due ((t, m) :: (r ++ E2)) s ns h b) R := H
    simp only [due] at H'
    unfold stepP
    have hl' : ns.length + (r.length + 1) <= 4000 := hl
    cases hls : isLate s with
    | true => rw [hls] at H'; exact H' _
    | false =>
      rw [hls] at H'
      cases hs : stp s t with
      | none => rw [hs] at H'; exact out_stop H'
      | some s' =>
        rw [hs] at H'
        cases hb : blk t h with
        | true => rw [hb] at H'; exact out_stop H'
        | false =>
          rw [hb] at H'
          refine addG_of (by omega) ?_
          rw [<- first_stp hs]
          have := addN_len s t ns
          exact due_run n rv X R Nx r s' _ _ _ _ (fun e => by cases e) (by omega) H'
end Mine
end

section
open PySem PySem.W PySem.Calls PyProof.Rows
namespace Mine
set_option tactic.hygienic false
theorem evF_in {T : Tab} {n : Nat} {f : N} {fn : Fn} {vs : List V} {σ : Hp} {Q : V -> Hp -> Prop} {X : List V -> Hp -> Prop} (h : find T.fns f = some fn) : evF T (n + 1) f vs σ Q X = evD T n fn vs σ (fun v σ' => handBack σ σ' v Q) X := by
  show selO (find T.fns f) _ _ = _
  rw [h]
  rfl
theorem evD_in {T : Tab} {n : Nat} {fn : Fn} {vs bs : List V} {σ : Hp} {Q : V -> Hp -> Prop} {X : List V -> Hp -> Prop} (h : bindA fn.params vs fn.dflt = some bs) : evD T (n + 1) fn vs σ Q X = evSs T n fn.body ⟨fn.nm, fn.sc, fn.params, bs⟩ σ (endK Q) X := by
  have e : evD T (n + 1) fn vs σ Q X = oP (fun bs => evSs T n fn.body ⟨fn.nm, fn.sc, fn.params, bs⟩ σ (endK Q) X) (bindA fn.params vs fn.dflt) := by kernel_rfl
  rw [e, h]
  rfl
theorem seq_ret {T : Tab} {n : Nat} {l : List Stmt} {R : V -> Hp -> Prop} {X : List V -> Hp -> Prop} (h : l = []) : seqK T (n + 1) l (endK R) X = retK R (fun _ σ => R .none σ) Fz Fz := by
  subst h
  funext f ρ σ
  cases f <;> rfl
section
variable (n : Nat) (L : List V) (f : V) (s : St) (ρ : Mine.Env) (σ : Hp) (Q : V -> Hp -> Prop) (K : Fl -> Mine.Env -> Hp -> Prop) (X : List V -> Hp -> Prop)
theorem due_3 : evSs T0 (n + 118) dB ⟨(fx (st 23)).nm, (fx (st 23)).sc, (fx (st 23)).params, [.dct mvN, .vls L, f, .str (stN s)]⟩ [] K X = evSs T0 (n + 115) (dropS dB 3) (dρ (.vls L) f s false 3 none) [.list []] K X := by kernel_rfl
theorem due_4 (T : Tab) : evSs T (n + 115) (dropS dB 3) ρ σ K X = evE T (n + 113) (fI (nthS dB 3)) ρ σ (fun w σ₁ => oP (fun l => forL (fun v ρ' σ' Q' => evA T (n + 113) dT v ρ' σ' (fun ρ₂ σ₂ => evSs T (n + 113) dL ρ₂ σ₂ Q' X) X) (seqK T (n + 114) (dropS dB 4) K X) l ρ σ₁) (forItems σ₁ w)) X := by kernel_rfl
theorem due_5 (T : Tab) : evE T (n + 113) (fI (nthS dB 3)) (dρ (.vls L) f s false 3 none) [.list []] Q X = ifB (Nat.ble (L ++ [plV (.eof, -1), plV (.eof, -1)]).length 4096) (Q (.vls (L ++ [plV (.eof, -1), plV (.eof, -1)])) [.list []]) := by kernel_rfl
theorem due_in : evF T0 (n + 120) (w_ "_law_due") [.dct mvN, .vls L, f, .str (stN s)] [] Q X = ifB (Nat.ble (L ++ [plV (.eof, -1), plV (.eof, -1)]).length 4096) (forL (bdD (n + 113) X) (retK (fun v σ => handBack [] σ v Q) (fun ρ σ => handBack [] σ .none Q) Fz Fz) (L ++ [plV (.eof, -1), plV (.eof, -1)]) (dρ (.vls L) f s false 3 none) [.list []]) := by
  refine (evF_in (fn := fx (st 23)) (by kernel_rfl)).trans ((evD_in (n := n + 118) (bs := [.dct mvN, .vls L, f, .str (stN s)]) (by kernel_rfl)).trans ((due_3 ..).trans ((due_4 ..).trans ((due_5 ..).trans ?_))))
  rw [seq_ret (by kernel_rfl)]
  rfl
end
noncomputable def anV : An -> V
  | .err k m => .tup [.str k, .int m]
  | .rd m ns h b => .tup [.str q_read, .int m, .vls (ns.map .str), .bool h, .int b]
theorem due_ev (n : Nat) {r : List (Tk × Int)} {s : St} (hs : s = .start \/ s = .head) (hl : r.length <= 3000) {Q : V -> Hp -> Prop} {X : List V -> Hp -> Prop} (H : Q (anV (due (r ++ E2) s [] false 3)) []) :
    evF T0 (n + 120) (w_ "_law_due") [.dct mvN, .vls (r.map plV), .str (firstN s), .str (stN s)] [] Q X := by
  have e : r.map plV ++ [plV (.eof, -1), plV (.eof, -1)] = (r ++ E2).map plV := by simp [E2]
  rw [due_in, e]
  refine ifB_of (by rw [Nat.ble_eq]; simp [E2]; omega) ?_
  refine due_run (n + 13) _ X _ _ r s false 3 none [] (fun _ => hs) (by simp; omega) ?_
  generalize due (r ++ E2) s [] false 3 = a at H ⊢
  cases a with
  | err k m => exact fun l => H
  | rd m ns h b =>
    show handBack [] [.list (ns.map .str)] (.tup [.str q_read, .int m, .lst 0, .bool h, .int b]) Q
    have hd : isDb 8 (.tup [.str q_read, .int m, .vls (ns.map .str), .bool h, .int b]) = true := by
      simp [isDb, isDbs, isDbs_strs]
    exact ifB_of hd H
noncomputable def isErr (k : N) : Prop := k = q_prim \/ k = q_init \/ k = q_unex
theorem stop_kind {s : St} {m m' : Int} {ns : List N} {h : Bool} {b : Int} {k : N} (e : stopA s m ns h b = .err k m') : isErr k := by
  cases s <;> cases e <;> first | exact .inl rfl | exact .inr (.inl rfl) | exact .inr (.inr rfl)
theorem due_kind : ∀ {r : List (Tk × Int)} {s : St} {ns : List N} {h : Bool} {b : Int} {k : N} {m : Int}, due (r ++ E2) s ns h b = .err k m -> isErr k
  | [], s, ns, h, b, k, m, e => by
    have e' : due ((.eof, -1) :: [(.eof, -1)]) s ns h b = .err k m := e
    have e1 : stp s .eof = none := by cases s <;> rfl
    simp only [due, e1] at e'
    cases hl : isLate s with
    | true => rw [hl] at e'; cases e'; exact .inl rfl
    | false => rw [hl] at e'; exact stop_kind e'
  | p :: r, s, ns, h, b, k, m, e => by
    have e' : due (p :: (r ++ E2)) s ns h b = .err k m := e
    simp only [due] at e'
    cases hl : isLate s with
    | true => rw [hl] at e'; cases e'; exact .inl rfl
    | false =>
      rw [hl] at e'
      cases hs : stp s p.1 with
      | none => rw [hs] at e'; exact stop_kind e'
      | some s' =>
        rw [hs] at e'
        cases hb : blk p.1 h with
        | true => rw [hb] at e'; exact stop_kind e'
        | false => rw [hb] at e'; exact due_kind e'
noncomputable def finK : Fl -> Mine.Env -> Hp -> Prop := fun fl _ _ => match fl with
  | .ret v => v = .bool true
  | _ => False
noncomputable def isT : V -> Hp -> Prop := fun v _ => v = .bool true
noncomputable def rks : List N := [w_ "moves", w_ "row", w_ "ports", w_ "bracketed", w_ "kept", w_ "told"]
theorem ifB_t (P : Prop) : ifB true P = P := rfl
theorem due_known : known T0 (w_ "_law_due") = true := by kernel_rfl
theorem end_brT (T : Tab) (rows ports : List V) (told : V) : evSs T 250 (dropS rB 3) (rρ ((l5 mvN rows ports true ++ [("told", told)]).map fun p => w_ p.1) ((l5 mvN rows ports true ++ [("told", told)]).map (·.2))) [] finK NoX = eqW [] (.vls ports) (.vls ports) (fun t => selB (!t) (V.bool false = .bool true)
    (ifB (known T (w_ "_law_due")) (evF T 243 (w_ "_law_due") [.dct mvN, .vls rows, .str (firstN .head), .str (stN .head)] [] (fun d σ => cmpW σ .Eq told d isT) NoX))) := by kernel_rfl
theorem ss_eq {T : Tab} {n : Nat} {l : List Stmt} {s : Stmt} {r : List Stmt} (e : l = s :: r) (ρ : Mine.Env) (σ : Hp) (Q : Fl -> Mine.Env -> Hp -> Prop) (X : List V -> Hp -> Prop) : evSs T (n + 1) l ρ σ Q X = evS T n s ρ σ (seqK T n r Q X) X := by
  subst e; rfl
noncomputable def lsρ (rows ports : List V) (told : V) : Mine.Env := rρ ((l5 mvN rows ports false ++ [("told", told)]).map fun p => w_ p.1) ((l5 mvN rows ports false ++ [("told", told)]).map (·.2))
section
variable (T : Tab) (n : Nat) (rows ports : List V) (p0 told : V) (K : Fl -> Mine.Env -> Hp -> Prop) (X : List V -> Hp -> Prop)
theorem ls_3 : evS T (n + 40) (nthS rB 3) (lsρ rows ports told) [] K X = eqW [] (.vls ports) (.vls ports) (fun t => selB (!t) (K (.ret (.bool false)) (lsρ rows ports told) []) (K .next (lsρ rows ports told) [])) := by kernel_rfl
theorem ls_4 : evS T (n + 40) (nthS rB 4) (lsρ rows ports told) [] K X = K .next (lsρ rows ports told) [] := by kernel_rfl
theorem ls_5 : evS T (n + 40) (nthS rB 5) (lsρ rows (p0 :: ports) told) [] K X = ifB (known T (w_ "_law_due")) (evF T (n + 38) (w_ "_law_due") [.dct mvN, .vls rows, p0, .str (stN .start)] [] (fun d σ => K .next (rρ (rks ++ [w_ "due"]) [.dct mvN, .vls rows, .vls (p0 :: ports), .bool false, .vls (p0 :: ports), told, d]) σ) X) := by kernel_rfl
end
theorem end_br (rows ports : List V) (told : V) : tEnd mvN rows ports true told = eqW [] (.vls ports) (.vls ports) (fun t => selB (!t) (V.bool false = .bool true)
    (evF T0 243 (w_ "_law_due") [.dct mvN, .vls rows, .str (firstN .head), .str (stN .head)] [] (fun d σ => cmpW σ .Eq told d isT) NoX)) := by
  refine (end_brT T0 rows ports told).trans ?_
  rw [due_known, ifB_t]
theorem end_ls (rows ports : List V) (p0 told : V) : tEnd mvN rows (p0 :: ports) false told = eqW [] (.vls (p0 :: ports)) (.vls (p0 :: ports)) (fun t => selB (!t) (V.bool false = .bool true)
    (evF T0 245 (w_ "_law_due") [.dct mvN, .vls rows, p0, .str (stN .start)] [] (fun d σ => evSs T0 247 (dropS rB 6) (rρ (rks ++ [w_ "due"]) [.dct mvN, .vls rows, .vls (p0 :: ports), .bool false, .vls (p0 :: ports), told, d]) σ finK NoX) NoX)) := by
  refine (ss_eq (s := nthS rB 3) (r := dropS rB 4) (by kernel_rfl) _ _ _ _).trans ((ls_3 T0 209 rows (p0 :: ports) told _ _).trans ?_)
  refine congrArg (eqW [] (.vls (p0 :: ports)) (.vls (p0 :: ports))) (funext fun t => congrArg (selB (!t) _) ?_)
  refine (ss_eq (s := nthS rB 4) (r := dropS rB 5) (by kernel_rfl) _ _ _ _).trans ((ls_4 T0 208 rows (p0 :: ports) told _ _).trans ?_)
  refine (ss_eq (s := nthS rB 5) (r := dropS rB 6) (by kernel_rfl) _ _ _ _).trans ((ls_5 T0 207 rows ports p0 told _ _).trans ?_)
  rw [due_known, ifB_t]
  rfl
end Mine
end

section
open PySem PySem.W PySem.Calls PyProof.Rows
namespace Mine
noncomputable def eρ (rows ports : List V) (told d : V) : Mine.Env := rρ (rks ++ [w_ "due"]) [.dct mvN, .vls rows, .vls ports, .bool false, .vls ports, told, d]
set_option tactic.hygienic false
theorem err_prim (rows ports : List V) (told : V) (m : Int) : evSs T0 247 (dropS rB 6) (eρ rows ports told (.tup [.str q_prim, .int m])) [] finK NoX = cmpW [] .Eq told (.tup [.str q_prim, .int m]) isT := by kernel_rfl
theorem err_init (rows ports : List V) (told : V) (m : Int) : evSs T0 247 (dropS rB 6) (eρ rows ports told (.tup [.str q_init, .int m])) [] finK NoX = cmpW [] .Eq told (.tup [.str q_init, .int m]) isT := by kernel_rfl
theorem err_unex (rows ports : List V) (told : V) (m : Int) : evSs T0 247 (dropS rB 6) (eρ rows ports told (.tup [.str q_unex, .int m])) [] finK NoX = cmpW [] .Eq told (.tup [.str q_unex, .int m]) isT := by kernel_rfl
theorem rd_ev (rows ports : List V) (told : V) (m : Int) (l : List V) (h : Bool) (b : Int) : evSs T0 247 (dropS rB 6) (eρ rows ports told (.tup [.str q_read, .int m, .vls l, .bool h, .int b])) [] finK NoX =
    evF T0 239 n_sorted [.vls l] [] (fun a σ₁ => evF T0 239 n_sorted [.vls ports] σ₁ (fun c σ₂ => cmpW σ₂ .Eq a c (boolOf fun t σ₃ => selB t (cmpW σ₃ .Eq told (.tup [.str q_read, .int m, .vls [], .bool h, .int b]) isT) (cmpW σ₃ .Eq told (.tup [.str q_prim, .int m]) isT))) NoX) NoX := by kernel_rfl
theorem veq_anV (a : An) : veq (anV a) (anV a) = true := by
  cases a with
  | err k m =>
    show (leq k k && ((m == m) && true)) = true
    rw [leq_refl, beq_self_eq_true]; rfl
  | rd m ns h b =>
    show (leq q_read q_read && ((m == m) && (veqs (ns.map .str) (ns.map .str) && ((h == h) && ((b == b) && true))))) = true
    rw [leq_refl, beq_self_eq_true, beq_self_eq_true, beq_self_eq_true, (veqs_strs ns ns).mpr rfl]; rfl
theorem cmp_self (σ : Hp) (a : An) : cmpW σ .Eq (anV a) (anV a) isT := by
  have hd : isDb 8 (anV a) = true := by
    cases a with
    | err k m => rfl
    | rd m ns h b =>
      show (match isDbs 6 (ns.map .str) with
        | true => true
        | false => false) = true
      rw [isDbs_strs]
  have e : ∀ t, t = true -> isT (.bool t) σ := fun t h => by subst h; rfl
  have k := ifB_of hd (ifB_of hd (e _ (veq_anV a)))
  cases a <;> exact k
theorem eq_ports (P : List N) {Q : Bool -> Prop} (h : Q true) : eqW [] (.vls (P.map .str)) (.vls (P.map .str)) Q := by
  refine ifB_of (isDb_strs 6 P) (ifB_of (isDb_strs 6 P) ?_)
  have : veq (.vls (P.map .str)) (.vls (P.map .str)) = true := (veqs_strs P P).mpr rfl
  rw [this]; exact h
theorem cmpE_strs {σ : Hp} {A B : List N} {Q : V -> Hp -> Prop} (h : ∀ t, (t = true ↔ A = B) -> Q (.bool t) σ) : cmpW σ .Eq (.vls (A.map .str)) (.vls (B.map .str)) Q :=
  ifB_of (isDb_strs 6 A) (ifB_of (isDb_strs 6 B) (h _ (veqs_strs A B)))
theorem sel_not {P R : Prop} (h : R) : selB (!true) P R := h
section
variable {P : List N} {r : List (Tk × Int)} {told : V}
theorem tEnd_br (hl : r.length <= 3000) (h : told = anV (due (r ++ E2) .head [] false 3)) : tEnd mvN (r.map plV) (P.map .str) true told := by
  rw [end_br]
  refine eq_ports P (sel_not ?_)
  refine due_ev 123 (s := .head) (.inr rfl) hl ?_
  rw [h]
  exact cmp_self _ _
noncomputable def Told (P : List N) (told : V) (a : An) : Prop := match a with
  | .err k m => told = .tup [.str k, .int m]
  | .rd m ns h b => (ns.Perm P -> told = .tup [.str q_read, .int m, .vls [], .bool h, .int b]) /\ (¬ ns.Perm P -> told = .tup [.str q_prim, .int m])
theorem due_len : ∀ {r : List (Tk × Int)} {s : St} {ns : List N} {h h' : Bool} {b b' : Int} {m : Int} {ns' : List N}, due r s ns h b = .rd m ns' h' b' -> ns'.length <= ns.length + r.length
  | [], s, ns, h, h', b, b', m, ns', e => by cases e
  | p :: r, s, ns, h, h', b, b', m, ns', e => by
    have stop : stopA s p.2 ns h b = .rd m ns' h' b' -> ns'.length <= ns.length + (r.length + 1) := fun e => by
      cases s <;> cases e <;> omega
    simp only [due] at e
    cases hl : isLate s with
    | true => rw [hl] at e; cases e
    | false =>
      rw [hl] at e
      cases hs : stp s p.1 with
      | none => rw [hs] at e; exact stop e
      | some s' =>
        rw [hs] at e
        cases hb : blk p.1 h with
        | true => rw [hb] at e; exact stop e
        | false =>
          rw [hb] at e
          have := due_len e
          have := addN_len s p.1 ns
          simp only [List.length_cons]
          omega
theorem tEnd_ls (hl : r.length <= 55) (hP : P.length <= 55) (h : Told ([113] :: P) told (due (r ++ E2) .start [] false 3)) : tEnd mvN (r.map plV) (([113] :: P).map .str) false told := by
  show tEnd mvN (r.map plV) (.str [113] :: P.map .str) false told
  rw [end_ls]
  refine eq_ports ([113] :: P) (sel_not ?_)
  refine due_ev 125 (s := .start) (.inl rfl) (by omega) ?_
  show evSs T0 247 (dropS rB 6) (eρ (r.map plV) (.str [113] :: P.map .str) told (anV (due (r ++ E2) .start [] false 3))) [] finK NoX
  cases hd : due (r ++ E2) .start [] false 3 with
  | err k m =>
    rw [hd] at h
    have h : told = anV (.err k m) := h
    rw [h]
    rcases due_kind hd with rfl | rfl | rfl
    · exact Eq.mpr (err_prim ..) (cmp_self _ (.err q_prim m))
    · exact Eq.mpr (err_init ..) (cmp_self _ (.err q_init m))
    · exact Eq.mpr (err_unex ..) (cmp_self _ (.err q_unex m))
  | rd m ns hh b =>
    rw [hd] at h
    obtain ⟨h1, h2⟩ := h
    have hn := due_len hd
    have hn' : ns.length <= 0 + (r.length + 2) := by simpa [E2] using hn
    refine Eq.mpr (rd_ev ..) (sorted_ok (A := ns) rfl (by omega) fun A pA sA => sorted_ok (A := [113] :: P) rfl (by rw [List.length_cons]; omega) fun B pB_ sB => cmpE_strs fun tt htt => ?_)
    cases tt with
    | true =>
      have e : A = B := htt.mp rfl
      subst e
      rw [h1 (pA.symm.trans pB_)]
      exact cmp_self [] (.rd m [] hh b)
    | false =>
      rw [h2 fun hp => by
        have := htt.mpr (sorted_eq ((pA.trans hp).trans pB_.symm) sA sB)
        cases this]
      exact cmp_self [] (.err q_prim m)
end
end Mine
end

section
open PySem PySem.W PySem.Calls PyProof.Rows
namespace Mine
noncomputable def cE : PySem.Expr := match nthS rB 0 with
  | .Assign _ (.Call _ [.Call _ [e] _ _] _ _) _ => e
  | _ => .Constant .none 0 ⟨0, 0, 0, 0⟩
noncomputable def cElt : PySem.Expr := match cE with
  | .ListComp e _ _ _ => e
  | e => e
noncomputable def cSc : Scope := match cE with
  | .ListComp _ _ s _ => s
  | _ => sS (st 24)
noncomputable def rρ0 (rows ports : List V) (br : Bool) : Mine.Env := rρ (fx (st 24)).params [.dct mvN, .vls rows, .vls ports, .bool br]
noncomputable def rρ1 (rows ports : List V) (br : Bool) : Mine.Env := rρ [w_ "moves", w_ "row", w_ "ports", w_ "bracketed", w_ "cursor"] [.dct mvN, .vls rows, .vls ports, .bool br, cur]
noncomputable def rρ2 (rows ports : List V) (br : Bool) : Mine.Env := rρ [w_ "moves", w_ "row", w_ "ports", w_ "bracketed", w_ "cursor", w_ "kept"] [.dct mvN, .vls rows, .vls ports, .bool br, cur, .vls ports]
noncomputable def cT : PySem.Expr := match cE with
  | .ListComp _ [⟨t, _, _, _⟩] _ _ => t
  | e => e
noncomputable def BD : V -> (V -> Prop) -> Prop := fun v K => match tvals cT v with
  | some tvs => match Nat.beq 3 tvs.length with
    | true => evE T0 244 cElt ⟨(fx (st 24)).nm, cSc.names, [w_ "kind", w_ "value", w_ "mark"], tvs ++ []⟩ [] (fun y σ' => match σ' with
      | [] => K y
      | _ :: _ => False) (fun _ _ => False)
    | false => False
  | none => False
set_option tactic.hygienic false
theorem compL_map {α : Type} {bd : V -> (V -> Prop) -> Prop} {f g : α -> V} (hbd : ∀ x K, K (g x) -> bd (f x) K) {Q : List V -> Prop} : ∀ {r : List α} {acc : List V}, Q (acc ++ r.map g) -> compL bd (r.map f) acc Q
  | [], acc, h => by simpa [compL] using h
  | x :: r, acc, h => by
    simp only [List.map_cons, compL]
    exact hbd x _ (compL_map hbd (by simpa using h))
section
variable (rows ports : List V) (br : Bool) (K : Fl -> Mine.Env -> Hp -> Prop) (Q : V -> Hp -> Prop) (X : List V -> Hp -> Prop) (σ : Hp)
theorem r_cur : evS T0 250 (nthS rB 0) (rρ0 rows ports br) [] K X = evE T0 245 cE (rρ0 rows ports br) [] (fun v σ => evF T0 246 n_TokenRow [v] σ (fun v1 σ1 => evF T0 248 nCur [v1] σ1 (fun v2 σ2 => K .next ((rρ0 rows ports br).put (w_ "cursor") v2) σ2) X) X) X := by kernel_rfl
theorem r_row (l : List V) : evF T0 246 n_TokenRow [.vls l] [] Q X = Q (.obj n_TokenRow 0) [.row [] l (.bool false)] := by kernel_rfl
theorem r_made (r : List (Tk × Int)) : evF T0 248 nCur [.obj n_TokenRow 0] [.row [] (r.map tokV) (.bool false)] Q X = Q cur (adv [] r []) := by
  cases r with
  | nil => kernel_rfl
  | cons p r => obtain ⟨t, m⟩ := p; cases t <;> kernel_rfl
theorem r_kept : evS T0 250 (nthS rB 1) (rρ1 rows ports br) σ K X = K .next (rρ2 rows ports br) σ := by kernel_rfl
theorem r_comp : evE T0 245 cE (rρ0 rows ports br) [] Q X = compL BD rows [] (fun ys => Q (.vls ys) []) := by kernel_rfl
theorem r_elt (p : Tk × Int) (K : V -> Prop) : BD (plV p) K = K (tokV p) := by kernel_rfl
theorem isDb_pl (p : Tk × Int) : isDb 6 (plV p) = true := by obtain ⟨t, m⟩ := p; cases t <;> rfl
theorem isDbs_pl : ∀ r : List (Tk × Int), isDbs 6 (r.map plV) = true
  | [] => rfl
  | p :: r => by simp only [List.map_cons, isDbs, isDb_pl, isDbs_pl r]
noncomputable def ρ3 (rows ports : List V) (br : Bool) (n h b : V) : Mine.Env := rρ [w_ "moves", w_ "row", w_ "ports", w_ "bracketed", w_ "cursor", w_ "kept", w_ "names", w_ "held", w_ "begin"] [.dct mvN, .vls rows, .vls ports, .bool br, cur, .vls ports, n, h, b]
theorem has3 (n h b : V) : Has (l5 mvN rows ports br) (ρ3 rows ports br n h b) := by
  intro p hp
  simp only [l5, List.mem_cons, List.not_mem_nil, or_false] at hp
  rcases hp with rfl | rfl | rfl | rfl | rfl <;> kernel_rfl
theorem has2 : Has (l5 mvN rows ports br) (rρ2 rows ports br) := by
  intro p hp
  simp only [l5, List.mem_cons, List.not_mem_nil, or_false] at hp
  rcases hp with rfl | rfl | rfl | rfl | rfl <;> kernel_rfl
noncomputable def ρ4 (rows ports : List V) (br : Bool) (n h b t : V) : Mine.Env := rρ [w_ "moves", w_ "row", w_ "ports", w_ "bracketed", w_ "cursor", w_ "kept", w_ "names", w_ "held", w_ "begin", w_ "told"] [.dct mvN, .vls rows, .vls ports, .bool br, cur, .vls ports, n, h, b, t]
theorem has4 (n h b t : V) : Has (l5 mvN rows ports br) (ρ4 rows ports br n h b t) := by
  intro p hp
  simp only [l5, List.mem_cons, List.not_mem_nil, or_false] at hp
  rcases hp with rfl | rfl | rfl | rfl | rfl <;> kernel_rfl
theorem told_br (pre : List V) (rest : List (Tk × Int)) (t : Tk) (m : Int) (l : List V) (h b : V) : tTold mvN rows ports br (ρ3 rows ports br (.lst 2) h b) (CSt pre rest (t, m) [.list l]) = (Has (l5 mvN rows ports br) (ρ4 rows ports br (.lst 2) h b (.tup [.str q_read, .int m, .lst 2, h, b])) /\ oP (fun w => ifB (isDb 8 w) (tEnd mvN rows ports br w)) (frz (CSt pre rest (t, m) [.list l]) (.tup [.str q_read, .int m, .lst 2, h, b]))) := by kernel_rfl
theorem told_ls (pre : List V) (rest : List (Tk × Int)) (t : Tk) (m : Int) (ex : Hp) (h b : V) : tTold mvN rows ports br (ρ3 rows ports br (.vls []) h b) (CSt pre rest (t, m) ex) = (Has (l5 mvN rows ports br) (ρ4 rows ports br (.vls []) h b (.tup [.str q_read, .int m, .vls [], h, b])) /\ oP (fun w => ifB (isDb 8 w) (tEnd mvN rows ports br w)) (frz (CSt pre rest (t, m) ex) (.tup [.str q_read, .int m, .vls [], h, b]))) := by kernel_rfl
theorem set_br (n h b : V) (K : Mine.Env -> Hp -> Prop) : evA T0 250 (aT ansiA) (.tup [n, h, b]) (rρ2 rows ports br) σ K X = K (ρ3 rows ports br n h b) σ := by kernel_rfl
noncomputable def rρ5 (rows ports : List V) (br : Bool) : Mine.Env := rρ [w_ "moves", w_ "row", w_ "ports", w_ "bracketed", w_ "cursor", w_ "kept", w_ "names"] [.dct mvN, .vls rows, .vls ports, .bool br, cur, .vls ports, .vls []]
theorem has5 : Has (l5 mvN rows ports br) (rρ5 rows ports br) := by
  intro p hp
  simp only [l5, List.mem_cons, List.not_mem_nil, or_false] at hp
  rcases hp with rfl | rfl | rfl | rfl | rfl <;> kernel_rfl
theorem r_names : evS T0 250 namesA (rρ2 rows ports br) σ K X = K .next (rρ5 rows ports br) σ := by kernel_rfl
theorem set_ls (h b : V) (K : Mine.Env -> Hp -> Prop) : evA T0 250 (aT portA) (.tup [h, b]) (rρ5 rows ports br) σ K X = K (ρ3 rows ports br (.vls []) h b) σ := by kernel_rfl
end
theorem oP_of {α : Type} {F : α -> Prop} {o : Option α} {x : α} (e : o = some x) (h : F x) : oP F o := by
  rw [e]
  exact h
theorem try_br {P : List N} {r pre : _} {p : Tk × Int} {rest : List (Tk × Int)} (hr : r.length <= 3000) (hl : rest.length + 1 <= 58) (e : due (lst p rest) .head [] false 3 = due (r ++ E2) .head [] false 3) : tTry mvN (r.map plV) (P.map .str) true (rρ2 (r.map plV) (P.map .str) true) (CSt pre rest p []) := by
  refine ⟨has2 _ _ _, fun _ => ?_, (fun h => nomatch h)⟩
  show evD T0 240 (fx (st 2)) [cur] (CSt pre rest p []) _ _
  refine ansi_sim hl ?_
  rw [e]
  cases hd : due (r ++ E2) .head [] false 3 with
  | err k m =>
    intro σ d
    exact ⟨_, _, _, rfl, tEnd_br hr (by rw [hd]; rfl)⟩
  | rd m ns h b =>
    intro pre rest t
    refine Eq.mpr (set_br ..) (Eq.mpr (told_br ..) ⟨has4 _ _ _ _ _ _ _, ?_⟩)
    have hdd : isDb 8 (.tup [.str q_read, .int m, .vls (ns.map .str), .bool h, .int b]) = true := by simp [isDb, isDbs, isDbs_strs]
    exact oP_of (x := .tup [.str q_read, .int m, .vls (ns.map .str), .bool h, .int b]) (by rfl) (ifB_of hdd (tEnd_br hr (by rw [hd]; rfl)))
theorem try_ls {P : List N} {r pre : _} {p : Tk × Int} {rest : List (Tk × Int)} (hr : r.length <= 55) (hP : P.length <= 55) (hl : rest.length + 1 <= 58) (e : due (lst p rest) .start [] false 3 = due (r ++ E2) .start [] false 3) : tTry mvN (r.map plV) (([113] :: P).map .str) false (rρ2 (r.map plV) (([113] :: P).map .str) false) (CSt pre rest p []) := by
  refine ⟨has2 _ _ _, (fun h => nomatch h), fun _ => Eq.mpr (r_names ..) ⟨has5 _ _ _, ?_⟩⟩
  show evD T0 240 (fx (st 3)) [cur, .vls (.str [113] :: P.map .str)] (CSt pre rest p []) _ _
  refine ports_sim (by omega) (by omega) ?_
  rw [e]
  cases hd : due (r ++ E2) .start [] false 3 with
  | err k m =>
    intro σ d
    exact ⟨_, _, _, rfl, tEnd_ls hr hP (by rw [hd]; rfl)⟩
  | rd m ns h b =>
    refine ⟨fun hp pre rest t ex => ?_, fun hp σ d => ?_⟩
    · refine Eq.mpr (set_ls ..) (Eq.mpr (told_ls ..) ⟨has4 _ _ _ _ _ _ _, ?_⟩)
      exact oP_of (x := .tup [.str q_read, .int m, .vls [], .bool h, .int b]) (by rfl) (ifB_of (by rfl) (tEnd_ls hr hP (by rw [hd]; exact ⟨fun _ => rfl, fun q => absurd hp q⟩)))
    · exact ⟨_, _, _, rfl, tEnd_ls hr hP (by rw [hd]; exact ⟨fun q => absurd q hp, fun _ => rfl⟩)⟩
theorem right_pre {P : List N} {r : List (Tk × Int)} {br : Bool} (hl : r.length <= 57) (h : ∀ pre, tTry mvN (r.map plV) (P.map .str) br (rρ2 (r.map plV) (P.map .str) br) (CSt pre (tl_ r) (hd_ r) [])) : tRight mvN (r.map plV) (P.map .str) br := by
  refine ⟨isDbs_pl r, isDb_strs 5 P, ?_⟩
  refine Eq.mpr (r_cur ..) (Eq.mpr (r_comp ..) (compL_map (g := tokV) (fun p K hK => Eq.mpr (r_elt ..) hK) ?_))
  refine Eq.mpr (r_row ..) (Eq.mpr (r_made ..) ?_)
  obtain ⟨pre, e⟩ := adv_eq [] r []
  rw [e]
  exact Eq.mpr (r_kept ..) (h pre)
theorem tl_len (r : List (Tk × Int)) : (tl_ r).length <= r.length := by cases r <;> simp [tl_]
theorem right_br {P : List N} {r : List (Tk × Int)} (hl : r.length <= 57) : tRight mvN (r.map plV) (P.map .str) true :=
  right_pre hl fun pre => try_br (by omega) (by have := tl_len r; omega) (due_next ..).symm
theorem right_ls {P : List N} {r : List (Tk × Int)} (hl : r.length <= 55) (hP : P.length <= 55) : tRight mvN (r.map plV) (([113] :: P).map .str) false :=
  right_pre (by omega) fun pre => try_ls hl hP (by have := tl_len r; omega) (due_next ..).symm
end Mine
end

section
open PySem PySem.W PySem.Calls PyProof.Rows
namespace Mine
noncomputable def isTk (v : V) : Prop := ∃ t, v = prV t
noncomputable def Good : List V -> Prop
  | [] => True
  | v :: r => isTk v /\ Good r
set_option tactic.hygienic false
theorem tk (t : Tk) : isTk (prV t) := ⟨t, rfl⟩
theorem Good.app : ∀ {a b : List V}, Good a -> Good b -> Good (a ++ b)
  | [], _, _, h => h
  | _ :: _, _, h, h2 => ⟨h.1, Good.app h.2 h2⟩
theorem Good.take : ∀ {a : List V} (k : Nat), Good a -> Good (a.take k)
  | [], k, _ => by simp [Good]
  | _ :: _, 0, _ => trivial
  | _ :: _, k + 1, h => ⟨h.1, Good.take k h.2⟩
theorem Good.drop : ∀ {a : List V} (k : Nat), Good a -> Good (a.drop k)
  | [], k, _ => by simp [Good]
  | _ :: _, 0, h => h
  | _ :: _, k + 1, h => Good.drop k h.2
theorem Good.get : ∀ {a : List V} {k : Nat} {v : V}, Good a -> a[k]? = some v -> isTk v
  | _ :: _, 0, v, h, e => by simp at e; exact e ▸ h.1
  | _ :: _, k + 1, v, h, e => Good.get (k := k) h.2 (by simpa using e)
  | [], k, v, h, e => by simp at e
theorem isDb_tk {v : V} (h : isTk v) : isDb 7 v = true := by obtain ⟨t, rfl⟩ := h; cases t <;> rfl
theorem isDbs_good : ∀ {l : List V}, Good l -> isDbs 7 l = true
  | [], _ => rfl
  | v :: r, h => by simp only [isDbs, isDb_tk h.1, isDbs_good h.2]
theorem isDb_good {l : List V} (h : Good l) : isDb 8 (.vls l) = true := isDbs_good h
theorem Good.toks : ∀ {l : List V}, Good l -> ∃ r : List Tk, l = r.map prV
  | [], _ => ⟨[], rfl⟩
  | v :: l, h => by
    obtain ⟨t, rfl⟩ := h.1
    obtain ⟨r, rfl⟩ := Good.toks h.2
    exact ⟨t :: r, rfl⟩
noncomputable def plcF : Nat -> List Tk -> List (Tk × Int)
  | _, [] => []
  | j, t :: r => (t, 4 + 3 * Int.ofNat j) :: plcF (j + 1) r
theorem plcF_len : ∀ (r : List Tk) (j : Nat), (plcF j r).length = r.length
  | [], _ => rfl
  | t :: r, j => by simp [plcF, plcF_len r]
noncomputable def pcE : PySem.Expr := match nthS (fx (st 20)).body 0 with
  | .Return (some e) _ => e
  | _ => .Constant .none 0 ⟨0, 0, 0, 0⟩
noncomputable def pElt : PySem.Expr := match pcE with
  | .ListComp e _ _ _ => e
  | e => e
noncomputable def pSc : Scope := match pcE with
  | .ListComp _ _ s _ => s
  | _ => sS (st 20)
noncomputable def pbd (rows : List V) : V -> (V -> Prop) -> Prop := fun v K => evE T0 247 pElt ⟨(fx (st 20)).nm, pSc.names, [w_ "k", w_ "row"], [v, .vls rows]⟩ [] (fun y σ' => match σ' with
      | [] => K y
      | _ :: _ => False) (fun _ _ => False)
theorem plc_in (rows : List V) (Q : V -> Prop) : tPlaced [.vls rows] Q = (match (match Nat.ble rows.length 4096 with
      | true => some (intsL (Int.ofNat 0) rows.length)
      | false => none) with
    | some l => compL (pbd rows) l [] (fun ys => Q (.vls ys))
    | none => False) := by kernel_rfl
theorem plc_elt (rows : List V) (j : Nat) (K : V -> Prop) : pbd rows (.int (Int.ofNat j)) K = (match rows[j]? with
    | some x => (match itemF [] x (.int 0) with
      | some a => (match rows[j]? with
        | some y => (match itemF [] y (.int 1) with
          | some c => K (.tup [a, c, .int (4 + 3 * Int.ofNat j)])
          | none => False)
        | none => False)
      | none => False)
    | none => False) := by kernel_rfl
theorem plc_comp (rows : List V) {Q : List V -> Prop} : ∀ (r : List Tk) (j : Nat) (acc : List V), (∀ i, (r.map prV)[i]? = rows[j + i]?) -> Q (acc ++ (plcF j r).map plV) -> compL (pbd rows) (intsL (Int.ofNat j) r.length) acc Q
  | [], j, acc, _, h => by simpa [compL, intsL, plcF] using h
  | t :: r, j, acc, hr, h => by
    show pbd rows (.int (Int.ofNat j)) fun y => compL (pbd rows) (intsL (Int.ofNat j + 1) r.length) (acc ++ [y]) Q
    rw [plc_elt]
    have e : rows[j]? = some (prV t) := (hr 0).symm
    rw [e]
    show compL (pbd rows) (intsL (Int.ofNat (j + 1)) r.length) (acc ++ [plV (t, 4 + 3 * Int.ofNat j)]) Q
    refine plc_comp rows r (j + 1) _ (fun i => ?_) (by simpa [plcF] using h)
    have := hr (i + 1)
    simp only [List.map_cons, List.getElem?_cons_succ] at this
    rw [this]
    congr 1
    omega
theorem plc_ev {r : List Tk} (hl : r.length <= 4096) {Q : V -> Prop} (h : Q (.vls ((plcF 0 r).map plV))) : tPlaced [.vls (r.map prV)] Q := by
  rw [plc_in, List.length_map, Nat.ble_eq_true_of_le hl]
  refine plc_comp (r.map prV) r 0 [] (fun i => by simp) ?_
  simpa using h
theorem orc_placed (n : Nat) (v : V) (Q : V -> Hp -> Prop) (X : List V -> Hp -> Prop) : evF LT (n + 301) (w_ "_law_placed") [v] [] Q X = tPlaced [v] (fun v => Q v []) := by kernel_rfl
end Mine
end

section
open PySem PySem.W PySem.Calls PyProof.Rows
namespace Mine
noncomputable abbrev nmV (s : N) : V := .tup [.str [105, 100], .str s]
noncomputable def fgB : List Stmt := (fx (st 16)).body
noncomputable def liB : List Stmt := (fx (st 17)).body
noncomputable def brB : List Stmt := (fx (st 18)).body
noncomputable def sndL : List V := [vl .s0, vl .s1, vl .s2, vl .s3, vl .s4]
noncomputable def oddL : List V := [vl .o0, vl .o1, vl .o2, vl .o3, vl .o4]
noncomputable def fgρ (k : Nat) : Mine.Env := ⟨(fx (st 16)).nm, (fx (st 16)).sc, [w_ "feed", w_ "sound", w_ "odd", w_ "which"], [.feed, .vls sndL, .vls oddL, .int (.ofNat k)]⟩
noncomputable def liρ (P : V) (k : Nat) : Mine.Env := ⟨(fx (st 17)).nm, (fx (st 17)).sc, [w_ "feed", w_ "ports", w_ "way"], [.feed, P, .int (.ofNat k)]⟩
noncomputable def brρ (P : V) (k : Nat) : Mine.Env := ⟨(fx (st 18)).nm, (fx (st 18)).sc, [w_ "feed", w_ "ports", w_ "way"], [.feed, P, .int (.ofNat k)]⟩
noncomputable def liρ5 (P : V) (k : Nat) : Mine.Env := ⟨(fx (st 17)).nm, (fx (st 17)).sc, [w_ "feed", w_ "ports", w_ "way", w_ "row"], [.feed, P, .int (.ofNat k), .lst 0]⟩
noncomputable def brρ5 (P : V) (k : Nat) : Mine.Env := ⟨(fx (st 18)).nm, (fx (st 18)).sc, [w_ "feed", w_ "ports", w_ "way", w_ "row"], [.feed, P, .int (.ofNat k), .lst 0]⟩
noncomputable def fin0 (Q : V -> Hp -> Prop) : Fl -> Mine.Env -> Hp -> Prop := endK (fun v σ' => handBack [] σ' v Q)
noncomputable def finR (Q : V -> Hp -> Prop) (l : List V) : Prop := ifB (isDb 8 (.vls l)) (Q (.vls l) [])
noncomputable def LF (F : List (N × Fn)) : Tab := { LT with fns := F }
set_option tactic.hygienic false
theorem fig_known : known (LF LT.fns) (w_ "_law_figure") = true := by kernel_rfl
section
variable (n : Nat) (l : List V) (s1 s2 s3 : N) (v P : V) (Q : V -> Hp -> Prop) (X : List V -> Hp -> Prop)
theorem fg_in : evF LT (n + 100) (w_ "_law_figure") [.feed] [.list l] Q X = (∀ k : Nat, k < 11 + 1 -> evSs LT (n + 95) (dropS fgB 3) (fgρ k) [.list l] (endK Q) X) := by kernel_rfl
theorem fg_0 : evSs LT (n + 95) (dropS fgB 3) (fgρ 0) [.list l] (endK Q) X = Q (prV .s0) [.list l] := by kernel_rfl
theorem fg_1 : evSs LT (n + 95) (dropS fgB 3) (fgρ 1) [.list l] (endK Q) X = Q (prV .s1) [.list l] := by kernel_rfl
theorem fg_2 : evSs LT (n + 95) (dropS fgB 3) (fgρ 2) [.list l] (endK Q) X = Q (prV .s2) [.list l] := by kernel_rfl
theorem fg_3 : evSs LT (n + 95) (dropS fgB 3) (fgρ 3) [.list l] (endK Q) X = Q (prV .s3) [.list l] := by kernel_rfl
theorem fg_4 : evSs LT (n + 95) (dropS fgB 3) (fgρ 4) [.list l] (endK Q) X = Q (prV .s4) [.list l] := by kernel_rfl
theorem fg_5 : evSs LT (n + 95) (dropS fgB 3) (fgρ 5) [.list l] (endK Q) X = Q (prV .s0) [.list l] := by kernel_rfl
theorem fg_6 : evSs LT (n + 95) (dropS fgB 3) (fgρ 6) [.list l] (endK Q) X = Q (prV .s1) [.list l] := by kernel_rfl
theorem fg_7 : evSs LT (n + 95) (dropS fgB 3) (fgρ 7) [.list l] (endK Q) X = Q (prV .s2) [.list l] := by kernel_rfl
theorem fg_8 : evSs LT (n + 95) (dropS fgB 3) (fgρ 8) [.list l] (endK Q) X = Q (prV .s3) [.list l] := by kernel_rfl
theorem fg_9 : evSs LT (n + 95) (dropS fgB 3) (fgρ 9) [.list l] (endK Q) X = Q (prV .s4) [.list l] := by kernel_rfl
theorem fg_10 : evSs LT (n + 95) (dropS fgB 3) (fgρ 10) [.list l] (endK Q) X = Q (prV .s0) [.list l] := by kernel_rfl
theorem fg_11 : evSs LT (n + 95) (dropS fgB 3) (fgρ 11) [.list l] (endK Q) X = (∀ j : Nat, j < 4 + 1 -> (match oddL[j]? with
    | some v => Q (.tup [.str (kd .o0), v]) [.list l]
    | none => False)) := by kernel_rfl
theorem ap_in (m : Nat) (l : List V) (K : V -> Hp -> Prop) : evM LT (m + 1) (.lst 0) n_append [v] [.list l] K X = ifB (Nat.blt l.length 4096) (K .none [.list (l ++ [v])]) := by kernel_rfl
theorem li_0 (K : Fl -> Mine.Env -> Hp -> Prop) : evS LT (n + 147) (nthS liB 0) ⟨(fx (st 17)).nm, (fx (st 17)).sc, (fx (st 17)).params, [.feed, P]⟩ [] K X = (∀ k : Nat, k < 4 + 1 -> K .next (liρ P k) []) := by kernel_rfl
theorem li_in : evF LT (n + 150) (w_ "_law_listed") [.feed, P] [] Q X = (∀ k : Nat, k < 4 + 1 -> evSs LT (n + 147) (dropS liB 1) (liρ P k) [] (fin0 Q) X) :=
  (evF_in (n := n + 149) (fn := fx (st 17)) (by kernel_rfl)).trans ((evD_in (n := n + 148) (bs := [.feed, P]) (by kernel_rfl)).trans ((ss_eq (n := n + 147) (s := nthS liB 0) (r := dropS liB 1) (by kernel_rfl) _ _ _ _).trans (li_0 ..)))
theorem br_0 (K : Fl -> Mine.Env -> Hp -> Prop) : evS LT (n + 147) (nthS brB 0) ⟨(fx (st 18)).nm, (fx (st 18)).sc, (fx (st 18)).params, [.feed, P]⟩ [] K X = (∀ k : Nat, k < 2 + 1 -> K .next (brρ P k) []) := by kernel_rfl
theorem br_in : evF LT (n + 150) (w_ "_law_bracketed") [.feed, P] [] Q X = (∀ k : Nat, k < 2 + 1 -> evSs LT (n + 147) (dropS brB 1) (brρ P k) [] (fin0 Q) X) :=
  (evF_in (n := n + 149) (fn := fx (st 18)) (by kernel_rfl)).trans ((evD_in (n := n + 148) (bs := [.feed, P]) (by kernel_rfl)).trans ((ss_eq (n := n + 147) (s := nthS brB 0) (r := dropS brB 1) (by kernel_rfl) _ _ _ _).trans (br_0 ..)))
theorem li_0_0 : evSs LT (n + 147) (dropS liB 1) (liρ (.vls [.str [113]]) 0) [] (fin0 Q) X = (∀ k : Nat, k < 1 + 1 -> (match (Int.ofNat k == (0 : Int)) with | true => finR Q [prV .kout, nmV [113], prV .osem] | false => finR Q [prV .kout, nmV [113], prV .osem])) := by kernel_rfl
theorem li_1_0 : evSs LT (n + 147) (dropS liB 1) (liρ (.vls [.str [113]]) 1) [] (fin0 Q) X = (∀ k : Nat, k < 1 + 1 -> (match (Int.ofNat k == (0 : Int)) with | true => finR Q [prV .kout, prV .kreg, nmV [113], prV .osem] | false => finR Q [prV .kout, prV .kreg, nmV [113], prV .osem])) := by kernel_rfl
theorem li_3_0 : evSs LT (n + 147) (dropS liB 1) (liρ (.vls [.str [113]]) 3) [] (fin0 Q) X = (∀ k : Nat, k < 1 + 1 -> (match (Int.ofNat k == (0 : Int)) with | true => finR Q [prV .kout, nmV [113], prV .osem, prV .kreg, nmV [113], prV .osem] | false => finR Q [prV .kout, nmV [113], prV .osem, prV .kreg, nmV [113], prV .osem])) := by kernel_rfl
theorem li_2_0 : evSs LT (n + 143) (dropS liB 5) (liρ5 (.vls [.str [113]]) 2) [.list [prV .kout, prV .kreg, nmV [113], prV .oeq, v]] (fin0 Q) X = (∀ k : Nat, k < 1 + 1 -> (match (Int.ofNat k == (0 : Int)) with | true => finR Q [prV .kout, prV .kreg, nmV [113], prV .oeq, v, prV .osem] | false => finR Q [prV .kout, prV .kreg, nmV [113], prV .oeq, v, prV .osem])) := by kernel_rfl
theorem li_4_0 : evSs LT (n + 143) (dropS liB 5) (liρ5 (.vls [.str [113]]) 4) [.list [prV .kout, nmV [113], prV .oeq, v]] (fin0 Q) X = (∀ k : Nat, k < 1 + 1 -> (match (Int.ofNat k == (0 : Int)) with | true => finR Q [prV .kreg, nmV [113], prV .osem, prV .kout, nmV [113], prV .oeq, v, prV .osem] | false => finR Q [prV .kreg, nmV [113], prV .osem, prV .kout, nmV [113], prV .oeq, v, prV .osem])) := by kernel_rfl
theorem br_0_0 : evSs LT (n + 147) (dropS brB 1) (brρ (.vls [.str [113]]) 0) [] (fin0 Q) X = finR Q [prV .kout, nmV [113], prV .obrk, prV .osem] := by kernel_rfl
theorem br_1_0 : evSs LT (n + 147) (dropS brB 1) (brρ (.vls [.str [113]]) 1) [] (fin0 Q) X = finR Q [prV .kout, prV .kreg, nmV [113], prV .obrk, prV .osem] := by kernel_rfl
theorem br_2_0 : evSs LT (n + 143) (dropS brB 5) (brρ5 (.vls [.str [113]]) 2) [.list [prV .kout, prV .kreg, nmV [113], prV .oeq, v]] (fin0 Q) X = finR Q [prV .kout, prV .kreg, nmV [113], prV .oeq, v, prV .obrk, prV .osem] := by kernel_rfl
theorem li_0_1 : evSs LT (n + 147) (dropS liB 1) (liρ (.vls [.str [113], .str s1]) 0) [] (fin0 Q) X = (∀ k : Nat, k < 1 + 1 -> (match (Int.ofNat k == (0 : Int)) with | true => finR Q [prV .kout, nmV [113], prV .osem, prV .kinp, nmV s1, prV .osem] | false => finR Q [prV .kinp, nmV s1, prV .osem, prV .kout, nmV [113], prV .osem])) := by kernel_rfl
theorem li_1_1 : evSs LT (n + 147) (dropS liB 1) (liρ (.vls [.str [113], .str s1]) 1) [] (fin0 Q) X = (∀ k : Nat, k < 1 + 1 -> (match (Int.ofNat k == (0 : Int)) with | true => finR Q [prV .kout, prV .kreg, nmV [113], prV .osem, prV .kinp, nmV s1, prV .osem] | false => finR Q [prV .kinp, nmV s1, prV .osem, prV .kout, prV .kreg, nmV [113], prV .osem])) := by kernel_rfl
theorem li_3_1 : evSs LT (n + 147) (dropS liB 1) (liρ (.vls [.str [113], .str s1]) 3) [] (fin0 Q) X = (∀ k : Nat, k < 1 + 1 -> (match (Int.ofNat k == (0 : Int)) with | true => finR Q [prV .kout, nmV [113], prV .osem, prV .kinp, nmV s1, prV .osem, prV .kreg, nmV [113], prV .osem] | false => finR Q [prV .kinp, nmV s1, prV .osem, prV .kout, nmV [113], prV .osem, prV .kreg, nmV [113], prV .osem])) := by kernel_rfl
theorem li_2_1 : evSs LT (n + 143) (dropS liB 5) (liρ5 (.vls [.str [113], .str s1]) 2) [.list [prV .kout, prV .kreg, nmV [113], prV .oeq, v]] (fin0 Q) X = (∀ k : Nat, k < 1 + 1 -> (match (Int.ofNat k == (0 : Int)) with | true => finR Q [prV .kout, prV .kreg, nmV [113], prV .oeq, v, prV .osem, prV .kinp, nmV s1, prV .osem] | false => finR Q [prV .kinp, nmV s1, prV .osem, prV .kout, prV .kreg, nmV [113], prV .oeq, v, prV .osem])) := by kernel_rfl
theorem li_4_1 : evSs LT (n + 143) (dropS liB 5) (liρ5 (.vls [.str [113], .str s1]) 4) [.list [prV .kout, nmV [113], prV .oeq, v]] (fin0 Q) X = (∀ k : Nat, k < 1 + 1 -> (match (Int.ofNat k == (0 : Int)) with | true => finR Q [prV .kreg, nmV [113], prV .osem, prV .kout, nmV [113], prV .oeq, v, prV .osem, prV .kinp, nmV s1, prV .osem] | false => finR Q [prV .kinp, nmV s1, prV .osem, prV .kreg, nmV [113], prV .osem, prV .kout, nmV [113], prV .oeq, v, prV .osem])) := by kernel_rfl
theorem br_0_1 : evSs LT (n + 147) (dropS brB 1) (brρ (.vls [.str [113], .str s1]) 0) [] (fin0 Q) X = finR Q [prV .kout, nmV [113], prV .ocom, prV .kinp, nmV s1, prV .obrk, prV .osem] := by kernel_rfl
theorem br_1_1 : evSs LT (n + 147) (dropS brB 1) (brρ (.vls [.str [113], .str s1]) 1) [] (fin0 Q) X = finR Q [prV .kout, prV .kreg, nmV [113], prV .ocom, prV .kinp, nmV s1, prV .obrk, prV .osem] := by kernel_rfl
theorem br_2_1 : evSs LT (n + 143) (dropS brB 5) (brρ5 (.vls [.str [113], .str s1]) 2) [.list [prV .kout, prV .kreg, nmV [113], prV .oeq, v]] (fin0 Q) X = finR Q [prV .kout, prV .kreg, nmV [113], prV .oeq, v, prV .ocom, prV .kinp, nmV s1, prV .obrk, prV .osem] := by kernel_rfl
theorem li_0_2 : evSs LT (n + 147) (dropS liB 1) (liρ (.vls [.str [113], .str s1, .str s2]) 0) [] (fin0 Q) X = (∀ k : Nat, k < 1 + 1 -> (match (Int.ofNat k == (0 : Int)) with | true => (∀ k : Nat, k < 1 + 1 -> (match (Int.ofNat k == (0 : Int)) with | true => finR Q [prV .kout, nmV [113], prV .osem, prV .kinp, nmV s1, prV .ocom, nmV s2, prV .osem] | false => finR Q [prV .kinp, nmV s1, prV .ocom, nmV s2, prV .osem, prV .kout, nmV [113], prV .osem])) | false => (∀ k : Nat, k < 1 + 1 -> (match (Int.ofNat k == (0 : Int)) with | true => finR Q [prV .kout, nmV [113], prV .osem, prV .kinp, nmV s1, prV .osem, prV .kinp, nmV s2, prV .osem] | false => finR Q [prV .kinp, nmV s1, prV .osem, prV .kinp, nmV s2, prV .osem, prV .kout, nmV [113], prV .osem])))) := by kernel_rfl
theorem li_1_2 : evSs LT (n + 147) (dropS liB 1) (liρ (.vls [.str [113], .str s1, .str s2]) 1) [] (fin0 Q) X = (∀ k : Nat, k < 1 + 1 -> (match (Int.ofNat k == (0 : Int)) with | true => (∀ k : Nat, k < 1 + 1 -> (match (Int.ofNat k == (0 : Int)) with | true => finR Q [prV .kout, prV .kreg, nmV [113], prV .osem, prV .kinp, nmV s1, prV .ocom, nmV s2, prV .osem] | false => finR Q [prV .kinp, nmV s1, prV .ocom, nmV s2, prV .osem, prV .kout, prV .kreg, nmV [113], prV .osem])) | false => (∀ k : Nat, k < 1 + 1 -> (match (Int.ofNat k == (0 : Int)) with | true => finR Q [prV .kout, prV .kreg, nmV [113], prV .osem, prV .kinp, nmV s1, prV .osem, prV .kinp, nmV s2, prV .osem] | false => finR Q [prV .kinp, nmV s1, prV .osem, prV .kinp, nmV s2, prV .osem, prV .kout, prV .kreg, nmV [113], prV .osem])))) := by kernel_rfl
theorem li_3_2 : evSs LT (n + 147) (dropS liB 1) (liρ (.vls [.str [113], .str s1, .str s2]) 3) [] (fin0 Q) X = (∀ k : Nat, k < 1 + 1 -> (match (Int.ofNat k == (0 : Int)) with | true => (∀ k : Nat, k < 1 + 1 -> (match (Int.ofNat k == (0 : Int)) with | true => finR Q [prV .kout, nmV [113], prV .osem, prV .kinp, nmV s1, prV .ocom, nmV s2, prV .osem, prV .kreg, nmV [113], prV .osem] | false => finR Q [prV .kinp, nmV s1, prV .ocom, nmV s2, prV .osem, prV .kout, nmV [113], prV .osem, prV .kreg, nmV [113], prV .osem])) | false => (∀ k : Nat, k < 1 + 1 -> (match (Int.ofNat k == (0 : Int)) with | true => finR Q [prV .kout, nmV [113], prV .osem, prV .kinp, nmV s1, prV .osem, prV .kinp, nmV s2, prV .osem, prV .kreg, nmV [113], prV .osem] | false => finR Q [prV .kinp, nmV s1, prV .osem, prV .kinp, nmV s2, prV .osem, prV .kout, nmV [113], prV .osem, prV .kreg, nmV [113], prV .osem])))) := by kernel_rfl
theorem li_2_2 : evSs LT (n + 143) (dropS liB 5) (liρ5 (.vls [.str [113], .str s1, .str s2]) 2) [.list [prV .kout, prV .kreg, nmV [113], prV .oeq, v]] (fin0 Q) X = (∀ k : Nat, k < 1 + 1 -> (match (Int.ofNat k == (0 : Int)) with | true => (∀ k : Nat, k < 1 + 1 -> (match (Int.ofNat k == (0 : Int)) with | true => finR Q [prV .kout, prV .kreg, nmV [113], prV .oeq, v, prV .osem, prV .kinp, nmV s1, prV .ocom, nmV s2, prV .osem] | false => finR Q [prV .kinp, nmV s1, prV .ocom, nmV s2, prV .osem, prV .kout, prV .kreg, nmV [113], prV .oeq, v, prV .osem])) | false => (∀ k : Nat, k < 1 + 1 -> (match (Int.ofNat k == (0 : Int)) with | true => finR Q [prV .kout, prV .kreg, nmV [113], prV .oeq, v, prV .osem, prV .kinp, nmV s1, prV .osem, prV .kinp, nmV s2, prV .osem] | false => finR Q [prV .kinp, nmV s1, prV .osem, prV .kinp, nmV s2, prV .osem, prV .kout, prV .kreg, nmV [113], prV .oeq, v, prV .osem])))) := by kernel_rfl
theorem li_4_2 : evSs LT (n + 143) (dropS liB 5) (liρ5 (.vls [.str [113], .str s1, .str s2]) 4) [.list [prV .kout, nmV [113], prV .oeq, v]] (fin0 Q) X = (∀ k : Nat, k < 1 + 1 -> (match (Int.ofNat k == (0 : Int)) with | true => (∀ k : Nat, k < 1 + 1 -> (match (Int.ofNat k == (0 : Int)) with | true => finR Q [prV .kreg, nmV [113], prV .osem, prV .kout, nmV [113], prV .oeq, v, prV .osem, prV .kinp, nmV s1, prV .ocom, nmV s2, prV .osem] | false => finR Q [prV .kinp, nmV s1, prV .ocom, nmV s2, prV .osem, prV .kreg, nmV [113], prV .osem, prV .kout, nmV [113], prV .oeq, v, prV .osem])) | false => (∀ k : Nat, k < 1 + 1 -> (match (Int.ofNat k == (0 : Int)) with | true => finR Q [prV .kreg, nmV [113], prV .osem, prV .kout, nmV [113], prV .oeq, v, prV .osem, prV .kinp, nmV s1, prV .osem, prV .kinp, nmV s2, prV .osem] | false => finR Q [prV .kinp, nmV s1, prV .osem, prV .kinp, nmV s2, prV .osem, prV .kreg, nmV [113], prV .osem, prV .kout, nmV [113], prV .oeq, v, prV .osem])))) := by kernel_rfl
theorem br_0_2 : evSs LT (n + 147) (dropS brB 1) (brρ (.vls [.str [113], .str s1, .str s2]) 0) [] (fin0 Q) X = (∀ k : Nat, k < 1 + 1 -> (match (Int.ofNat k == (0 : Int)) with | true => finR Q [prV .kout, nmV [113], prV .ocom, prV .kinp, nmV s1, prV .ocom, prV .kinp, nmV s2, prV .obrk, prV .osem] | false => finR Q [prV .kout, nmV [113], prV .ocom, prV .kinp, nmV s1, prV .ocom, nmV s2, prV .obrk, prV .osem])) := by kernel_rfl
theorem br_1_2 : evSs LT (n + 147) (dropS brB 1) (brρ (.vls [.str [113], .str s1, .str s2]) 1) [] (fin0 Q) X = (∀ k : Nat, k < 1 + 1 -> (match (Int.ofNat k == (0 : Int)) with | true => finR Q [prV .kout, prV .kreg, nmV [113], prV .ocom, prV .kinp, nmV s1, prV .ocom, prV .kinp, nmV s2, prV .obrk, prV .osem] | false => finR Q [prV .kout, prV .kreg, nmV [113], prV .ocom, prV .kinp, nmV s1, prV .ocom, nmV s2, prV .obrk, prV .osem])) := by kernel_rfl
theorem br_2_2 : evSs LT (n + 143) (dropS brB 5) (brρ5 (.vls [.str [113], .str s1, .str s2]) 2) [.list [prV .kout, prV .kreg, nmV [113], prV .oeq, v]] (fin0 Q) X = (∀ k : Nat, k < 1 + 1 -> (match (Int.ofNat k == (0 : Int)) with | true => finR Q [prV .kout, prV .kreg, nmV [113], prV .oeq, v, prV .ocom, prV .kinp, nmV s1, prV .ocom, prV .kinp, nmV s2, prV .obrk, prV .osem] | false => finR Q [prV .kout, prV .kreg, nmV [113], prV .oeq, v, prV .ocom, prV .kinp, nmV s1, prV .ocom, nmV s2, prV .obrk, prV .osem])) := by kernel_rfl
theorem li_0_3 : evSs LT (n + 147) (dropS liB 1) (liρ (.vls [.str [113], .str s1, .str s2, .str s3]) 0) [] (fin0 Q) X = (∀ k : Nat, k < 1 + 1 -> (match (Int.ofNat k == (0 : Int)) with | true => (∀ k : Nat, k < 1 + 1 -> (match (Int.ofNat k == (0 : Int)) with | true => (∀ k : Nat, k < 1 + 1 -> (match (Int.ofNat k == (0 : Int)) with | true => finR Q [prV .kout, nmV [113], prV .osem, prV .kinp, nmV s1, prV .ocom, nmV s2, prV .ocom, nmV s3, prV .osem] | false => finR Q [prV .kinp, nmV s1, prV .ocom, nmV s2, prV .ocom, nmV s3, prV .osem, prV .kout, nmV [113], prV .osem])) | false => (∀ k : Nat, k < 1 + 1 -> (match (Int.ofNat k == (0 : Int)) with | true => finR Q [prV .kout, nmV [113], prV .osem, prV .kinp, nmV s1, prV .ocom, nmV s2, prV .osem, prV .kinp, nmV s3, prV .osem] | false => finR Q [prV .kinp, nmV s1, prV .ocom, nmV s2, prV .osem, prV .kinp, nmV s3, prV .osem, prV .kout, nmV [113], prV .osem])))) | false => (∀ k : Nat, k < 1 + 1 -> (match (Int.ofNat k == (0 : Int)) with | true => (∀ k : Nat, k < 1 + 1 -> (match (Int.ofNat k == (0 : Int)) with | true => finR Q [prV .kout, nmV [113], prV .osem, prV .kinp, nmV s1, prV .osem, prV .kinp, nmV s2, prV .ocom, nmV s3, prV .osem] | false => finR Q [prV .kinp, nmV s1, prV .osem, prV .kinp, nmV s2, prV .ocom, nmV s3, prV .osem, prV .kout, nmV [113], prV .osem])) | false => (∀ k : Nat, k < 1 + 1 -> (match (Int.ofNat k == (0 : Int)) with | true => finR Q [prV .kout, nmV [113], prV .osem, prV .kinp, nmV s1, prV .osem, prV .kinp, nmV s2, prV .osem, prV .kinp, nmV s3, prV .osem] | false => finR Q [prV .kinp, nmV s1, prV .osem, prV .kinp, nmV s2, prV .osem, prV .kinp, nmV s3, prV .osem, prV .kout, nmV [113], prV .osem])))))) := by kernel_rfl
theorem li_1_3 : evSs LT (n + 147) (dropS liB 1) (liρ (.vls [.str [113], .str s1, .str s2, .str s3]) 1) [] (fin0 Q) X = (∀ k : Nat, k < 1 + 1 -> (match (Int.ofNat k == (0 : Int)) with | true => (∀ k : Nat, k < 1 + 1 -> (match (Int.ofNat k == (0 : Int)) with | true => (∀ k : Nat, k < 1 + 1 -> (match (Int.ofNat k == (0 : Int)) with | true => finR Q [prV .kout, prV .kreg, nmV [113], prV .osem, prV .kinp, nmV s1, prV .ocom, nmV s2, prV .ocom, nmV s3, prV .osem] | false => finR Q [prV .kinp, nmV s1, prV .ocom, nmV s2, prV .ocom, nmV s3, prV .osem, prV .kout, prV .kreg, nmV [113], prV .osem])) | false => (∀ k : Nat, k < 1 + 1 -> (match (Int.ofNat k == (0 : Int)) with | true => finR Q [prV .kout, prV .kreg, nmV [113], prV .osem, prV .kinp, nmV s1, prV .ocom, nmV s2, prV .osem, prV .kinp, nmV s3, prV .osem] | false => finR Q [prV .kinp, nmV s1, prV .ocom, nmV s2, prV .osem, prV .kinp, nmV s3, prV .osem, prV .kout, prV .kreg, nmV [113], prV .osem])))) | false => (∀ k : Nat, k < 1 + 1 -> (match (Int.ofNat k == (0 : Int)) with | true => (∀ k : Nat, k < 1 + 1 -> (match (Int.ofNat k == (0 : Int)) with | true => finR Q [prV .kout, prV .kreg, nmV [113], prV .osem, prV .kinp, nmV s1, prV .osem, prV .kinp, nmV s2, prV .ocom, nmV s3, prV .osem] | false => finR Q [prV .kinp, nmV s1, prV .osem, prV .kinp, nmV s2, prV .ocom, nmV s3, prV .osem, prV .kout, prV .kreg, nmV [113], prV .osem])) | false => (∀ k : Nat, k < 1 + 1 -> (match (Int.ofNat k == (0 : Int)) with | true => finR Q [prV .kout, prV .kreg, nmV [113], prV .osem, prV .kinp, nmV s1, prV .osem, prV .kinp, nmV s2, prV .osem, prV .kinp, nmV s3, prV .osem] | false => finR Q [prV .kinp, nmV s1, prV .osem, prV .kinp, nmV s2, prV .osem, prV .kinp, nmV s3, prV .osem, prV .kout, prV .kreg, nmV [113], prV .osem])))))) := by kernel_rfl
theorem li_3_3 : evSs LT (n + 147) (dropS liB 1) (liρ (.vls [.str [113], .str s1, .str s2, .str s3]) 3) [] (fin0 Q) X = (∀ k : Nat, k < 1 + 1 -> (match (Int.ofNat k == (0 : Int)) with | true => (∀ k : Nat, k < 1 + 1 -> (match (Int.ofNat k == (0 : Int)) with | true => (∀ k : Nat, k < 1 + 1 -> (match (Int.ofNat k == (0 : Int)) with | true => finR Q [prV .kout, nmV [113], prV .osem, prV .kinp, nmV s1, prV .ocom, nmV s2, prV .ocom, nmV s3, prV .osem, prV .kreg, nmV [113], prV .osem] | false => finR Q [prV .kinp, nmV s1, prV .ocom, nmV s2, prV .ocom, nmV s3, prV .osem, prV .kout, nmV [113], prV .osem, prV .kreg, nmV [113], prV .osem])) | false => (∀ k : Nat, k < 1 + 1 -> (match (Int.ofNat k == (0 : Int)) with | true => finR Q [prV .kout, nmV [113], prV .osem, prV .kinp, nmV s1, prV .ocom, nmV s2, prV .osem, prV .kinp, nmV s3, prV .osem, prV .kreg, nmV [113], prV .osem] | false => finR Q [prV .kinp, nmV s1, prV .ocom, nmV s2, prV .osem, prV .kinp, nmV s3, prV .osem, prV .kout, nmV [113], prV .osem, prV .kreg, nmV [113], prV .osem])))) | false => (∀ k : Nat, k < 1 + 1 -> (match (Int.ofNat k == (0 : Int)) with | true => (∀ k : Nat, k < 1 + 1 -> (match (Int.ofNat k == (0 : Int)) with | true => finR Q [prV .kout, nmV [113], prV .osem, prV .kinp, nmV s1, prV .osem, prV .kinp, nmV s2, prV .ocom, nmV s3, prV .osem, prV .kreg, nmV [113], prV .osem] | false => finR Q [prV .kinp, nmV s1, prV .osem, prV .kinp, nmV s2, prV .ocom, nmV s3, prV .osem, prV .kout, nmV [113], prV .osem, prV .kreg, nmV [113], prV .osem])) | false => (∀ k : Nat, k < 1 + 1 -> (match (Int.ofNat k == (0 : Int)) with | true => finR Q [prV .kout, nmV [113], prV .osem, prV .kinp, nmV s1, prV .osem, prV .kinp, nmV s2, prV .osem, prV .kinp, nmV s3, prV .osem, prV .kreg, nmV [113], prV .osem] | false => finR Q [prV .kinp, nmV s1, prV .osem, prV .kinp, nmV s2, prV .osem, prV .kinp, nmV s3, prV .osem, prV .kout, nmV [113], prV .osem, prV .kreg, nmV [113], prV .osem])))))) := by kernel_rfl
theorem li_2_3 : evSs LT (n + 143) (dropS liB 5) (liρ5 (.vls [.str [113], .str s1, .str s2, .str s3]) 2) [.list [prV .kout, prV .kreg, nmV [113], prV .oeq, v]] (fin0 Q) X = (∀ k : Nat, k < 1 + 1 -> (match (Int.ofNat k == (0 : Int)) with | true => (∀ k : Nat, k < 1 + 1 -> (match (Int.ofNat k == (0 : Int)) with | true => (∀ k : Nat, k < 1 + 1 -> (match (Int.ofNat k == (0 : Int)) with | true => finR Q [prV .kout, prV .kreg, nmV [113], prV .oeq, v, prV .osem, prV .kinp, nmV s1, prV .ocom, nmV s2, prV .ocom, nmV s3, prV .osem] | false => finR Q [prV .kinp, nmV s1, prV .ocom, nmV s2, prV .ocom, nmV s3, prV .osem, prV .kout, prV .kreg, nmV [113], prV .oeq, v, prV .osem])) | false => (∀ k : Nat, k < 1 + 1 -> (match (Int.ofNat k == (0 : Int)) with | true => finR Q [prV .kout, prV .kreg, nmV [113], prV .oeq, v, prV .osem, prV .kinp, nmV s1, prV .ocom, nmV s2, prV .osem, prV .kinp, nmV s3, prV .osem] | false => finR Q [prV .kinp, nmV s1, prV .ocom, nmV s2, prV .osem, prV .kinp, nmV s3, prV .osem, prV .kout, prV .kreg, nmV [113], prV .oeq, v, prV .osem])))) | false => (∀ k : Nat, k < 1 + 1 -> (match (Int.ofNat k == (0 : Int)) with | true => (∀ k : Nat, k < 1 + 1 -> (match (Int.ofNat k == (0 : Int)) with | true => finR Q [prV .kout, prV .kreg, nmV [113], prV .oeq, v, prV .osem, prV .kinp, nmV s1, prV .osem, prV .kinp, nmV s2, prV .ocom, nmV s3, prV .osem] | false => finR Q [prV .kinp, nmV s1, prV .osem, prV .kinp, nmV s2, prV .ocom, nmV s3, prV .osem, prV .kout, prV .kreg, nmV [113], prV .oeq, v, prV .osem])) | false => (∀ k : Nat, k < 1 + 1 -> (match (Int.ofNat k == (0 : Int)) with | true => finR Q [prV .kout, prV .kreg, nmV [113], prV .oeq, v, prV .osem, prV .kinp, nmV s1, prV .osem, prV .kinp, nmV s2, prV .osem, prV .kinp, nmV s3, prV .osem] | false => finR Q [prV .kinp, nmV s1, prV .osem, prV .kinp, nmV s2, prV .osem, prV .kinp, nmV s3, prV .osem, prV .kout, prV .kreg, nmV [113], prV .oeq, v, prV .osem])))))) := by kernel_rfl
theorem li_4_3 : evSs LT (n + 143) (dropS liB 5) (liρ5 (.vls [.str [113], .str s1, .str s2, .str s3]) 4) [.list [prV .kout, nmV [113], prV .oeq, v]] (fin0 Q) X = (∀ k : Nat, k < 1 + 1 -> (match (Int.ofNat k == (0 : Int)) with | true => (∀ k : Nat, k < 1 + 1 -> (match (Int.ofNat k == (0 : Int)) with | true => (∀ k : Nat, k < 1 + 1 -> (match (Int.ofNat k == (0 : Int)) with | true => finR Q [prV .kreg, nmV [113], prV .osem, prV .kout, nmV [113], prV .oeq, v, prV .osem, prV .kinp, nmV s1, prV .ocom, nmV s2, prV .ocom, nmV s3, prV .osem] | false => finR Q [prV .kinp, nmV s1, prV .ocom, nmV s2, prV .ocom, nmV s3, prV .osem, prV .kreg, nmV [113], prV .osem, prV .kout, nmV [113], prV .oeq, v, prV .osem])) | false => (∀ k : Nat, k < 1 + 1 -> (match (Int.ofNat k == (0 : Int)) with | true => finR Q [prV .kreg, nmV [113], prV .osem, prV .kout, nmV [113], prV .oeq, v, prV .osem, prV .kinp, nmV s1, prV .ocom, nmV s2, prV .osem, prV .kinp, nmV s3, prV .osem] | false => finR Q [prV .kinp, nmV s1, prV .ocom, nmV s2, prV .osem, prV .kinp, nmV s3, prV .osem, prV .kreg, nmV [113], prV .osem, prV .kout, nmV [113], prV .oeq, v, prV .osem])))) | false => (∀ k : Nat, k < 1 + 1 -> (match (Int.ofNat k == (0 : Int)) with | true => (∀ k : Nat, k < 1 + 1 -> (match (Int.ofNat k == (0 : Int)) with | true => finR Q [prV .kreg, nmV [113], prV .osem, prV .kout, nmV [113], prV .oeq, v, prV .osem, prV .kinp, nmV s1, prV .osem, prV .kinp, nmV s2, prV .ocom, nmV s3, prV .osem] | false => finR Q [prV .kinp, nmV s1, prV .osem, prV .kinp, nmV s2, prV .ocom, nmV s3, prV .osem, prV .kreg, nmV [113], prV .osem, prV .kout, nmV [113], prV .oeq, v, prV .osem])) | false => (∀ k : Nat, k < 1 + 1 -> (match (Int.ofNat k == (0 : Int)) with | true => finR Q [prV .kreg, nmV [113], prV .osem, prV .kout, nmV [113], prV .oeq, v, prV .osem, prV .kinp, nmV s1, prV .osem, prV .kinp, nmV s2, prV .osem, prV .kinp, nmV s3, prV .osem] | false => finR Q [prV .kinp, nmV s1, prV .osem, prV .kinp, nmV s2, prV .osem, prV .kinp, nmV s3, prV .osem, prV .kreg, nmV [113], prV .osem, prV .kout, nmV [113], prV .oeq, v, prV .osem])))))) := by kernel_rfl
theorem br_0_3 : evSs LT (n + 147) (dropS brB 1) (brρ (.vls [.str [113], .str s1, .str s2, .str s3]) 0) [] (fin0 Q) X = (∀ k : Nat, k < 1 + 1 -> (match (Int.ofNat k == (0 : Int)) with | true => (∀ k : Nat, k < 1 + 1 -> (match (Int.ofNat k == (0 : Int)) with | true => finR Q [prV .kout, nmV [113], prV .ocom, prV .kinp, nmV s1, prV .ocom, prV .kinp, nmV s2, prV .ocom, prV .kinp, nmV s3, prV .obrk, prV .osem] | false => finR Q [prV .kout, nmV [113], prV .ocom, prV .kinp, nmV s1, prV .ocom, prV .kinp, nmV s2, prV .ocom, nmV s3, prV .obrk, prV .osem])) | false => (∀ k : Nat, k < 1 + 1 -> (match (Int.ofNat k == (0 : Int)) with | true => finR Q [prV .kout, nmV [113], prV .ocom, prV .kinp, nmV s1, prV .ocom, nmV s2, prV .ocom, prV .kinp, nmV s3, prV .obrk, prV .osem] | false => finR Q [prV .kout, nmV [113], prV .ocom, prV .kinp, nmV s1, prV .ocom, nmV s2, prV .ocom, nmV s3, prV .obrk, prV .osem])))) := by kernel_rfl
theorem br_1_3 : evSs LT (n + 147) (dropS brB 1) (brρ (.vls [.str [113], .str s1, .str s2, .str s3]) 1) [] (fin0 Q) X = (∀ k : Nat, k < 1 + 1 -> (match (Int.ofNat k == (0 : Int)) with | true => (∀ k : Nat, k < 1 + 1 -> (match (Int.ofNat k == (0 : Int)) with | true => finR Q [prV .kout, prV .kreg, nmV [113], prV .ocom, prV .kinp, nmV s1, prV .ocom, prV .kinp, nmV s2, prV .ocom, prV .kinp, nmV s3, prV .obrk, prV .osem] | false => finR Q [prV .kout, prV .kreg, nmV [113], prV .ocom, prV .kinp, nmV s1, prV .ocom, prV .kinp, nmV s2, prV .ocom, nmV s3, prV .obrk, prV .osem])) | false => (∀ k : Nat, k < 1 + 1 -> (match (Int.ofNat k == (0 : Int)) with | true => finR Q [prV .kout, prV .kreg, nmV [113], prV .ocom, prV .kinp, nmV s1, prV .ocom, nmV s2, prV .ocom, prV .kinp, nmV s3, prV .obrk, prV .osem] | false => finR Q [prV .kout, prV .kreg, nmV [113], prV .ocom, prV .kinp, nmV s1, prV .ocom, nmV s2, prV .ocom, nmV s3, prV .obrk, prV .osem])))) := by kernel_rfl
theorem br_2_3 : evSs LT (n + 143) (dropS brB 5) (brρ5 (.vls [.str [113], .str s1, .str s2, .str s3]) 2) [.list [prV .kout, prV .kreg, nmV [113], prV .oeq, v]] (fin0 Q) X = (∀ k : Nat, k < 1 + 1 -> (match (Int.ofNat k == (0 : Int)) with | true => (∀ k : Nat, k < 1 + 1 -> (match (Int.ofNat k == (0 : Int)) with | true => finR Q [prV .kout, prV .kreg, nmV [113], prV .oeq, v, prV .ocom, prV .kinp, nmV s1, prV .ocom, prV .kinp, nmV s2, prV .ocom, prV .kinp, nmV s3, prV .obrk, prV .osem] | false => finR Q [prV .kout, prV .kreg, nmV [113], prV .oeq, v, prV .ocom, prV .kinp, nmV s1, prV .ocom, prV .kinp, nmV s2, prV .ocom, nmV s3, prV .obrk, prV .osem])) | false => (∀ k : Nat, k < 1 + 1 -> (match (Int.ofNat k == (0 : Int)) with | true => finR Q [prV .kout, prV .kreg, nmV [113], prV .oeq, v, prV .ocom, prV .kinp, nmV s1, prV .ocom, nmV s2, prV .ocom, prV .kinp, nmV s3, prV .obrk, prV .osem] | false => finR Q [prV .kout, prV .kreg, nmV [113], prV .oeq, v, prV .ocom, prV .kinp, nmV s1, prV .ocom, nmV s2, prV .ocom, nmV s3, prV .obrk, prV .osem])))) := by kernel_rfl
theorem li_s1 (k : Nat) (K : Fl -> Mine.Env -> Hp -> Prop) : evS LT (n + 40) (nthS liB 1) (liρ P k) [] K X = K .next (liρ5 P k) [.list [prV .kout]] := by kernel_rfl
theorem li_s2a (K : Fl -> Mine.Env -> Hp -> Prop) : evS LT (n + 40) (nthS liB 2) (liρ5 P 2) [.list [prV .kout]] K X = K .next (liρ5 P 2) [.list [prV .kout, prV .kreg]] := by kernel_rfl
theorem li_s2b (K : Fl -> Mine.Env -> Hp -> Prop) : evS LT (n + 40) (nthS liB 2) (liρ5 P 4) [.list [prV .kout]] K X = K .next (liρ5 P 4) [.list [prV .kout]] := by kernel_rfl
theorem li_s3a (K : Fl -> Mine.Env -> Hp -> Prop) (l : List V) : evS LT (n + 40) (nthS liB 3) (liρ5 (.vls (.str [113] :: l)) 2) [.list [prV .kout, prV .kreg]] K X = K .next (liρ5 (.vls (.str [113] :: l)) 2) [.list [prV .kout, prV .kreg, nmV [113]]] := by kernel_rfl
theorem li_s3b (K : Fl -> Mine.Env -> Hp -> Prop) (l : List V) : evS LT (n + 40) (nthS liB 3) (liρ5 (.vls (.str [113] :: l)) 4) [.list [prV .kout]] K X = K .next (liρ5 (.vls (.str [113] :: l)) 4) [.list [prV .kout, nmV [113]]] := by kernel_rfl
theorem li_s4a (F : List (N × Fn)) (K : Fl -> Mine.Env -> Hp -> Prop) : evS (LF F) (n + 143) (nthS liB 4) (liρ5 P 2) [.list [prV .kout, prV .kreg, nmV [113]]] K X = ifB (known (LF F) (w_ "_law_figure")) (evF (LF F) (n + 136) (w_ "_law_figure") [.feed] [.list [prV .kout, prV .kreg, nmV [113], prV .oeq]] (fun v σ₁ => evM (LF F) (n + 138) (.lst 0) n_append [v] σ₁ (fun _ σ₂ => K .next (liρ5 P 2) σ₂) X) X) := by kernel_rfl
theorem li_s4b (F : List (N × Fn)) (K : Fl -> Mine.Env -> Hp -> Prop) : evS (LF F) (n + 143) (nthS liB 4) (liρ5 P 4) [.list [prV .kout, nmV [113]]] K X = ifB (known (LF F) (w_ "_law_figure")) (evF (LF F) (n + 136) (w_ "_law_figure") [.feed] [.list [prV .kout, nmV [113], prV .oeq]] (fun v σ₁ => evM (LF F) (n + 138) (.lst 0) n_append [v] σ₁ (fun _ σ₂ => K .next (liρ5 P 4) σ₂) X) X) := by kernel_rfl
theorem li_2f (l : List V) : evSs LT (n + 147) (dropS liB 1) (liρ (.vls (.str [113] :: l)) 2) [] (fin0 Q) X = evF LT (n + 136) (w_ "_law_figure") [.feed] [.list [prV .kout, prV .kreg, nmV [113], prV .oeq]] (fun v σ₁ => evM LT (n + 138) (.lst 0) n_append [v] σ₁ (fun _ σ₂ => evSs LT (n + 143) (dropS liB 5) (liρ5 (.vls (.str [113] :: l)) 2) σ₂ (fin0 Q) X) X) X := by
  refine (ss_eq (s := nthS liB 1) (r := dropS liB 2) (by kernel_rfl) _ _ _ _).trans ((li_s1 (n + 106) _ X _ _).trans ?_)
  refine (ss_eq (s := nthS liB 2) (r := dropS liB 3) (by kernel_rfl) _ _ _ _).trans ((li_s2a (n + 105) _ X _).trans ?_)
  refine (ss_eq (s := nthS liB 3) (r := dropS liB 4) (by kernel_rfl) _ _ _ _).trans ((li_s3a (n + 104) X _ l).trans ?_)
  refine (ss_eq (s := nthS liB 4) (r := dropS liB 5) (by kernel_rfl) _ _ _ _).trans ((li_s4a n _ X LT.fns _).trans ?_)
  rw [fig_known, ifB_t]
  rfl
theorem li_4f (l : List V) : evSs LT (n + 147) (dropS liB 1) (liρ (.vls (.str [113] :: l)) 4) [] (fin0 Q) X = evF LT (n + 136) (w_ "_law_figure") [.feed] [.list [prV .kout, nmV [113], prV .oeq]] (fun v σ₁ => evM LT (n + 138) (.lst 0) n_append [v] σ₁ (fun _ σ₂ => evSs LT (n + 143) (dropS liB 5) (liρ5 (.vls (.str [113] :: l)) 4) σ₂ (fin0 Q) X) X) X := by
  refine (ss_eq (s := nthS liB 1) (r := dropS liB 2) (by kernel_rfl) _ _ _ _).trans ((li_s1 (n + 106) _ X _ _).trans ?_)
  refine (ss_eq (s := nthS liB 2) (r := dropS liB 3) (by kernel_rfl) _ _ _ _).trans ((li_s2b (n + 105) _ X _).trans ?_)
  refine (ss_eq (s := nthS liB 3) (r := dropS liB 4) (by kernel_rfl) _ _ _ _).trans ((li_s3b (n + 104) X _ l).trans ?_)
  refine (ss_eq (s := nthS liB 4) (r := dropS liB 5) (by kernel_rfl) _ _ _ _).trans ((li_s4b n _ X LT.fns _).trans ?_)
  rw [fig_known, ifB_t]
  rfl
theorem br_2fT (F : List (N × Fn)) (K : Fl -> Mine.Env -> Hp -> Prop) (l : List V) : evSs (LF F) (n + 147) (dropS brB 1) (brρ (.vls (.str [113] :: l)) 2) [] K X = ifB (known (LF F) (w_ "_law_figure")) (evF (LF F) (n + 136) (w_ "_law_figure") [.feed] [.list [prV .kout, prV .kreg, nmV [113], prV .oeq]] (fun v σ₁ => evM (LF F) (n + 138) (.lst 0) n_append [v] σ₁ (fun _ σ₂ => evSs (LF F) (n + 143) (dropS brB 5) (brρ5 (.vls (.str [113] :: l)) 2) σ₂ K X) X) X) := by kernel_rfl
theorem br_2f (l : List V) : evSs LT (n + 147) (dropS brB 1) (brρ (.vls (.str [113] :: l)) 2) [] (fin0 Q) X = evF LT (n + 136) (w_ "_law_figure") [.feed] [.list [prV .kout, prV .kreg, nmV [113], prV .oeq]] (fun v σ₁ => evM LT (n + 138) (.lst 0) n_append [v] σ₁ (fun _ σ₂ => evSs LT (n + 143) (dropS brB 5) (brρ5 (.vls (.str [113] :: l)) 2) σ₂ (fin0 Q) X) X) X := by
  refine (br_2fT n X LT.fns (fin0 Q) l).trans ?_
  rw [fig_known, ifB_t]
  rfl
end
end Mine
end

section
open PySem PySem.W PySem.Calls PyProof.Rows
namespace Mine
set_option tactic.hygienic false
theorem good_nil : Good [] := trivial
theorem good_cons {v : V} {r : List V} (a : isTk v) (b : Good r) : Good (v :: r) := ⟨a, b⟩
noncomputable def pickG (a b : Prop) : Prop := ∀ k : Nat, k < 1 + 1 -> (match (Int.ofNat k == (0 : Int)) with | true => a | false => b)
theorem pick_ok {a b : Prop} (ha : a) (hb : b) : pickG a b := by
  intro k hk
  cases (Int.ofNat k == (0 : Int))
  · exact hb
  · exact ha
theorem tkq : isTk (nmV [113]) := ⟨.iq, rfl⟩
theorem figE {n : Nat} {l : List V} {Q : V -> Hp -> Prop} {X : List V -> Hp -> Prop} (h : ∀ v, isTk v -> Q v [.list l]) : evF LT (n + 100) (w_ "_law_figure") [.feed] [.list l] Q X := by
  rw [fg_in]
  intro k hk
  match k, hk with
  | 0, _ => rw [fg_0]; exact h _ (tk _)
  | 1, _ => rw [fg_1]; exact h _ (tk _)
  | 2, _ => rw [fg_2]; exact h _ (tk _)
  | 3, _ => rw [fg_3]; exact h _ (tk _)
  | 4, _ => rw [fg_4]; exact h _ (tk _)
  | 5, _ => rw [fg_5]; exact h _ (tk _)
  | 6, _ => rw [fg_6]; exact h _ (tk _)
  | 7, _ => rw [fg_7]; exact h _ (tk _)
  | 8, _ => rw [fg_8]; exact h _ (tk _)
  | 9, _ => rw [fg_9]; exact h _ (tk _)
  | 10, _ => rw [fg_10]; exact h _ (tk _)
  | 11, _ =>
    rw [fg_11]
    intro j hj
    match j, hj with
    | 0, _ => exact h _ (tk .o0)
    | 1, _ => exact h _ (tk .o1)
    | 2, _ => exact h _ (tk .o2)
    | 3, _ => exact h _ (tk .o3)
    | 4, _ => exact h _ (tk .o4)
    | j + 5, hj => omega
  | k + 12, hk => omega
theorem finR_ok {Q : V -> Hp -> Prop} {l : List V} (H : ∀ l, Good l -> 3 <= l.length -> l.length <= 20 -> Q (.vls l) []) (g : Good l) (h1 : 3 <= l.length) (h2 : l.length <= 20) : finR Q l := ifB_of (isDb_good g) (H l g h1 h2)
section
variable {n : Nat} {Q : V -> Hp -> Prop} {X : List V -> Hp -> Prop}
theorem li_ok {I : List N} (hI : I.length <= 3) (hn : ∀ s ∈ I, isTk (nmV s)) (H : ∀ l, Good l -> 3 <= l.length -> l.length <= 20 -> Q (.vls l) []) : evF LT (n + 150) (w_ "_law_listed") [.feed, .vls (.str [113] :: I.map .str)] [] Q X := by
  rw [li_in]
  intro k hk
  match k, hk with
  | 0, _ =>
    match I, hI, hn with
    | [], _, hn =>
      refine Eq.mpr (li_0_0 n  Q X) ?_
      repeat' first | (refine finR_ok H ?_ (Nat.le_of_ble_eq_true rfl) (Nat.le_of_ble_eq_true rfl)) | exact good_nil | refine good_cons ?_ ?_ | assumption | exact tkq | exact tk _ | (refine pick_ok ?_ ?_)
    | [s1], _, hn =>
      have h1 := hn s1 (.head _)
      refine Eq.mpr (li_0_1 n s1 Q X) ?_
      repeat' first | (refine finR_ok H ?_ (Nat.le_of_ble_eq_true rfl) (Nat.le_of_ble_eq_true rfl)) | exact good_nil | refine good_cons ?_ ?_ | assumption | exact tkq | exact tk _ | (refine pick_ok ?_ ?_)
    | [s1, s2], _, hn =>
      have h1 := hn s1 (.head _)
      have h2 := hn s2 (.tail _ (.head _))
      refine Eq.mpr (li_0_2 n s1 s2 Q X) ?_
      repeat' first | (refine finR_ok H ?_ (Nat.le_of_ble_eq_true rfl) (Nat.le_of_ble_eq_true rfl)) | exact good_nil | refine good_cons ?_ ?_ | assumption | exact tkq | exact tk _ | (refine pick_ok ?_ ?_)
    | [s1, s2, s3], _, hn =>
      have h1 := hn s1 (.head _)
      have h2 := hn s2 (.tail _ (.head _))
      have h3 := hn s3 (.tail _ (.tail _ (.head _)))
      refine Eq.mpr (li_0_3 n s1 s2 s3 Q X) ?_
      repeat' first | (refine finR_ok H ?_ (Nat.le_of_ble_eq_true rfl) (Nat.le_of_ble_eq_true rfl)) | exact good_nil | refine good_cons ?_ ?_ | assumption | exact tkq | exact tk _ | (refine pick_ok ?_ ?_)
    | _ :: _ :: _ :: _ :: _, hI, _ => simp at hI
  | 1, _ =>
    match I, hI, hn with
    | [], _, hn =>
      refine Eq.mpr (li_1_0 n  Q X) ?_
      repeat' first | (refine finR_ok H ?_ (Nat.le_of_ble_eq_true rfl) (Nat.le_of_ble_eq_true rfl)) | exact good_nil | refine good_cons ?_ ?_ | assumption | exact tkq | exact tk _ | (refine pick_ok ?_ ?_)
    | [s1], _, hn =>
      have h1 := hn s1 (.head _)
      refine Eq.mpr (li_1_1 n s1 Q X) ?_
      repeat' first | (refine finR_ok H ?_ (Nat.le_of_ble_eq_true rfl) (Nat.le_of_ble_eq_true rfl)) | exact good_nil | refine good_cons ?_ ?_ | assumption | exact tkq | exact tk _ | (refine pick_ok ?_ ?_)
    | [s1, s2], _, hn =>
      have h1 := hn s1 (.head _)
      have h2 := hn s2 (.tail _ (.head _))
      refine Eq.mpr (li_1_2 n s1 s2 Q X) ?_
      repeat' first | (refine finR_ok H ?_ (Nat.le_of_ble_eq_true rfl) (Nat.le_of_ble_eq_true rfl)) | exact good_nil | refine good_cons ?_ ?_ | assumption | exact tkq | exact tk _ | (refine pick_ok ?_ ?_)
    | [s1, s2, s3], _, hn =>
      have h1 := hn s1 (.head _)
      have h2 := hn s2 (.tail _ (.head _))
      have h3 := hn s3 (.tail _ (.tail _ (.head _)))
      refine Eq.mpr (li_1_3 n s1 s2 s3 Q X) ?_
      repeat' first | (refine finR_ok H ?_ (Nat.le_of_ble_eq_true rfl) (Nat.le_of_ble_eq_true rfl)) | exact good_nil | refine good_cons ?_ ?_ | assumption | exact tkq | exact tk _ | (refine pick_ok ?_ ?_)
    | _ :: _ :: _ :: _ :: _, hI, _ => simp at hI
  | 2, _ =>
    rw [li_2f]
    refine figE (n := n + 36) fun v hv => ?_
    rw [ap_in]
    refine ifB_of rfl ?_
    match I, hI, hn with
    | [], _, hn =>
      refine Eq.mpr (li_2_0 n  v Q X) ?_
      repeat' first | (refine finR_ok H ?_ (Nat.le_of_ble_eq_true rfl) (Nat.le_of_ble_eq_true rfl)) | exact good_nil | refine good_cons ?_ ?_ | assumption | exact tkq | exact tk _ | (refine pick_ok ?_ ?_)
    | [s1], _, hn =>
      have h1 := hn s1 (.head _)
      refine Eq.mpr (li_2_1 n s1 v Q X) ?_
      repeat' first | (refine finR_ok H ?_ (Nat.le_of_ble_eq_true rfl) (Nat.le_of_ble_eq_true rfl)) | exact good_nil | refine good_cons ?_ ?_ | assumption | exact tkq | exact tk _ | (refine pick_ok ?_ ?_)
    | [s1, s2], _, hn =>
      have h1 := hn s1 (.head _)
      have h2 := hn s2 (.tail _ (.head _))
      refine Eq.mpr (li_2_2 n s1 s2 v Q X) ?_
      repeat' first | (refine finR_ok H ?_ (Nat.le_of_ble_eq_true rfl) (Nat.le_of_ble_eq_true rfl)) | exact good_nil | refine good_cons ?_ ?_ | assumption | exact tkq | exact tk _ | (refine pick_ok ?_ ?_)
    | [s1, s2, s3], _, hn =>
      have h1 := hn s1 (.head _)
      have h2 := hn s2 (.tail _ (.head _))
      have h3 := hn s3 (.tail _ (.tail _ (.head _)))
      refine Eq.mpr (li_2_3 n s1 s2 s3 v Q X) ?_
      repeat' first | (refine finR_ok H ?_ (Nat.le_of_ble_eq_true rfl) (Nat.le_of_ble_eq_true rfl)) | exact good_nil | refine good_cons ?_ ?_ | assumption | exact tkq | exact tk _ | (refine pick_ok ?_ ?_)
    | _ :: _ :: _ :: _ :: _, hI, _ => simp at hI
  | 3, _ =>
    match I, hI, hn with
    | [], _, hn =>
      refine Eq.mpr (li_3_0 n  Q X) ?_
      repeat' first | (refine finR_ok H ?_ (Nat.le_of_ble_eq_true rfl) (Nat.le_of_ble_eq_true rfl)) | exact good_nil | refine good_cons ?_ ?_ | assumption | exact tkq | exact tk _ | (refine pick_ok ?_ ?_)
    | [s1], _, hn =>
      have h1 := hn s1 (.head _)
      refine Eq.mpr (li_3_1 n s1 Q X) ?_
      repeat' first | (refine finR_ok H ?_ (Nat.le_of_ble_eq_true rfl) (Nat.le_of_ble_eq_true rfl)) | exact good_nil | refine good_cons ?_ ?_ | assumption | exact tkq | exact tk _ | (refine pick_ok ?_ ?_)
    | [s1, s2], _, hn =>
      have h1 := hn s1 (.head _)
      have h2 := hn s2 (.tail _ (.head _))
      refine Eq.mpr (li_3_2 n s1 s2 Q X) ?_
      repeat' first | (refine finR_ok H ?_ (Nat.le_of_ble_eq_true rfl) (Nat.le_of_ble_eq_true rfl)) | exact good_nil | refine good_cons ?_ ?_ | assumption | exact tkq | exact tk _ | (refine pick_ok ?_ ?_)
    | [s1, s2, s3], _, hn =>
      have h1 := hn s1 (.head _)
      have h2 := hn s2 (.tail _ (.head _))
      have h3 := hn s3 (.tail _ (.tail _ (.head _)))
      refine Eq.mpr (li_3_3 n s1 s2 s3 Q X) ?_
      repeat' first | (refine finR_ok H ?_ (Nat.le_of_ble_eq_true rfl) (Nat.le_of_ble_eq_true rfl)) | exact good_nil | refine good_cons ?_ ?_ | assumption | exact tkq | exact tk _ | (refine pick_ok ?_ ?_)
    | _ :: _ :: _ :: _ :: _, hI, _ => simp at hI
  | 4, _ =>
    rw [li_4f]
    refine figE (n := n + 36) fun v hv => ?_
    rw [ap_in]
    refine ifB_of rfl ?_
    match I, hI, hn with
    | [], _, hn =>
      refine Eq.mpr (li_4_0 n  v Q X) ?_
      repeat' first | (refine finR_ok H ?_ (Nat.le_of_ble_eq_true rfl) (Nat.le_of_ble_eq_true rfl)) | exact good_nil | refine good_cons ?_ ?_ | assumption | exact tkq | exact tk _ | (refine pick_ok ?_ ?_)
    | [s1], _, hn =>
      have h1 := hn s1 (.head _)
      refine Eq.mpr (li_4_1 n s1 v Q X) ?_
      repeat' first | (refine finR_ok H ?_ (Nat.le_of_ble_eq_true rfl) (Nat.le_of_ble_eq_true rfl)) | exact good_nil | refine good_cons ?_ ?_ | assumption | exact tkq | exact tk _ | (refine pick_ok ?_ ?_)
    | [s1, s2], _, hn =>
      have h1 := hn s1 (.head _)
      have h2 := hn s2 (.tail _ (.head _))
      refine Eq.mpr (li_4_2 n s1 s2 v Q X) ?_
      repeat' first | (refine finR_ok H ?_ (Nat.le_of_ble_eq_true rfl) (Nat.le_of_ble_eq_true rfl)) | exact good_nil | refine good_cons ?_ ?_ | assumption | exact tkq | exact tk _ | (refine pick_ok ?_ ?_)
    | [s1, s2, s3], _, hn =>
      have h1 := hn s1 (.head _)
      have h2 := hn s2 (.tail _ (.head _))
      have h3 := hn s3 (.tail _ (.tail _ (.head _)))
      refine Eq.mpr (li_4_3 n s1 s2 s3 v Q X) ?_
      repeat' first | (refine finR_ok H ?_ (Nat.le_of_ble_eq_true rfl) (Nat.le_of_ble_eq_true rfl)) | exact good_nil | refine good_cons ?_ ?_ | assumption | exact tkq | exact tk _ | (refine pick_ok ?_ ?_)
    | _ :: _ :: _ :: _ :: _, hI, _ => simp at hI
  | k + 5, hk => omega
theorem br_ok {I : List N} (hI : I.length <= 3) (hn : ∀ s ∈ I, isTk (nmV s)) (H : ∀ l, Good l -> 3 <= l.length -> l.length <= 20 -> Q (.vls l) []) : evF LT (n + 150) (w_ "_law_bracketed") [.feed, .vls (.str [113] :: I.map .str)] [] Q X := by
  rw [br_in]
  intro k hk
  match k, hk with
  | 0, _ =>
    match I, hI, hn with
    | [], _, hn =>
      refine Eq.mpr (br_0_0 n  Q X) ?_
      repeat' first | (refine finR_ok H ?_ (Nat.le_of_ble_eq_true rfl) (Nat.le_of_ble_eq_true rfl)) | exact good_nil | refine good_cons ?_ ?_ | assumption | exact tkq | exact tk _ | (refine pick_ok ?_ ?_)
    | [s1], _, hn =>
      have h1 := hn s1 (.head _)
      refine Eq.mpr (br_0_1 n s1 Q X) ?_
      repeat' first | (refine finR_ok H ?_ (Nat.le_of_ble_eq_true rfl) (Nat.le_of_ble_eq_true rfl)) | exact good_nil | refine good_cons ?_ ?_ | assumption | exact tkq | exact tk _ | (refine pick_ok ?_ ?_)
    | [s1, s2], _, hn =>
      have h1 := hn s1 (.head _)
      have h2 := hn s2 (.tail _ (.head _))
      refine Eq.mpr (br_0_2 n s1 s2 Q X) ?_
      repeat' first | (refine finR_ok H ?_ (Nat.le_of_ble_eq_true rfl) (Nat.le_of_ble_eq_true rfl)) | exact good_nil | refine good_cons ?_ ?_ | assumption | exact tkq | exact tk _ | (refine pick_ok ?_ ?_)
    | [s1, s2, s3], _, hn =>
      have h1 := hn s1 (.head _)
      have h2 := hn s2 (.tail _ (.head _))
      have h3 := hn s3 (.tail _ (.tail _ (.head _)))
      refine Eq.mpr (br_0_3 n s1 s2 s3 Q X) ?_
      repeat' first | (refine finR_ok H ?_ (Nat.le_of_ble_eq_true rfl) (Nat.le_of_ble_eq_true rfl)) | exact good_nil | refine good_cons ?_ ?_ | assumption | exact tkq | exact tk _ | (refine pick_ok ?_ ?_)
    | _ :: _ :: _ :: _ :: _, hI, _ => simp at hI
  | 1, _ =>
    match I, hI, hn with
    | [], _, hn =>
      refine Eq.mpr (br_1_0 n  Q X) ?_
      repeat' first | (refine finR_ok H ?_ (Nat.le_of_ble_eq_true rfl) (Nat.le_of_ble_eq_true rfl)) | exact good_nil | refine good_cons ?_ ?_ | assumption | exact tkq | exact tk _ | (refine pick_ok ?_ ?_)
    | [s1], _, hn =>
      have h1 := hn s1 (.head _)
      refine Eq.mpr (br_1_1 n s1 Q X) ?_
      repeat' first | (refine finR_ok H ?_ (Nat.le_of_ble_eq_true rfl) (Nat.le_of_ble_eq_true rfl)) | exact good_nil | refine good_cons ?_ ?_ | assumption | exact tkq | exact tk _ | (refine pick_ok ?_ ?_)
    | [s1, s2], _, hn =>
      have h1 := hn s1 (.head _)
      have h2 := hn s2 (.tail _ (.head _))
      refine Eq.mpr (br_1_2 n s1 s2 Q X) ?_
      repeat' first | (refine finR_ok H ?_ (Nat.le_of_ble_eq_true rfl) (Nat.le_of_ble_eq_true rfl)) | exact good_nil | refine good_cons ?_ ?_ | assumption | exact tkq | exact tk _ | (refine pick_ok ?_ ?_)
    | [s1, s2, s3], _, hn =>
      have h1 := hn s1 (.head _)
      have h2 := hn s2 (.tail _ (.head _))
      have h3 := hn s3 (.tail _ (.tail _ (.head _)))
      refine Eq.mpr (br_1_3 n s1 s2 s3 Q X) ?_
      repeat' first | (refine finR_ok H ?_ (Nat.le_of_ble_eq_true rfl) (Nat.le_of_ble_eq_true rfl)) | exact good_nil | refine good_cons ?_ ?_ | assumption | exact tkq | exact tk _ | (refine pick_ok ?_ ?_)
    | _ :: _ :: _ :: _ :: _, hI, _ => simp at hI
  | 2, _ =>
    rw [br_2f]
    refine figE (n := n + 36) fun v hv => ?_
    rw [ap_in]
    refine ifB_of rfl ?_
    match I, hI, hn with
    | [], _, hn =>
      refine Eq.mpr (br_2_0 n  v Q X) ?_
      repeat' first | (refine finR_ok H ?_ (Nat.le_of_ble_eq_true rfl) (Nat.le_of_ble_eq_true rfl)) | exact good_nil | refine good_cons ?_ ?_ | assumption | exact tkq | exact tk _ | (refine pick_ok ?_ ?_)
    | [s1], _, hn =>
      have h1 := hn s1 (.head _)
      refine Eq.mpr (br_2_1 n s1 v Q X) ?_
      repeat' first | (refine finR_ok H ?_ (Nat.le_of_ble_eq_true rfl) (Nat.le_of_ble_eq_true rfl)) | exact good_nil | refine good_cons ?_ ?_ | assumption | exact tkq | exact tk _ | (refine pick_ok ?_ ?_)
    | [s1, s2], _, hn =>
      have h1 := hn s1 (.head _)
      have h2 := hn s2 (.tail _ (.head _))
      refine Eq.mpr (br_2_2 n s1 s2 v Q X) ?_
      repeat' first | (refine finR_ok H ?_ (Nat.le_of_ble_eq_true rfl) (Nat.le_of_ble_eq_true rfl)) | exact good_nil | refine good_cons ?_ ?_ | assumption | exact tkq | exact tk _ | (refine pick_ok ?_ ?_)
    | [s1, s2, s3], _, hn =>
      have h1 := hn s1 (.head _)
      have h2 := hn s2 (.tail _ (.head _))
      have h3 := hn s3 (.tail _ (.tail _ (.head _)))
      refine Eq.mpr (br_2_3 n s1 s2 s3 v Q X) ?_
      repeat' first | (refine finR_ok H ?_ (Nat.le_of_ble_eq_true rfl) (Nat.le_of_ble_eq_true rfl)) | exact good_nil | refine good_cons ?_ ?_ | assumption | exact tkq | exact tk _ | (refine pick_ok ?_ ?_)
    | _ :: _ :: _ :: _ :: _, hI, _ => simp at hI
  | k + 3, hk => omega
end
end Mine
end

section
open PySem PySem.W PySem.Calls PyProof.Rows
namespace Mine
noncomputable def spB : List Stmt := (fx (st 19)).body
noncomputable def spT : PySem.Expr := fT (nthS spB 2)
noncomputable def spL : List Stmt := fB (nthS spB 2)
noncomputable def menuL : List V := [prV .oeq, prV .ia, prV .kreg, prV .ocom, prV .osem, prV .kinp, prV .iq, prV .obrk, prV .kout, prV .s5, prV .o3, prV .st, prV .ktab]
noncomputable def spρ (row : V) (x : Option (V × V × V × V)) : Mine.Env := match x with
  | none => ⟨(fx (st 19)).nm, (fx (st 19)).sc, [w_ "feed", w_ "row", w_ "menu"], [.feed, row, .vls menuL]⟩
  | some (t, s, w, f) => ⟨(fx (st 19)).nm, (fx (st 19)).sc, [w_ "feed", w_ "row", w_ "menu", w_ "turn", w_ "spot", w_ "way", w_ "fresh"], [.feed, row, .vls menuL, t, s, w, f]⟩
noncomputable def spρ2 (row t s w : V) (f : Option V) : Mine.Env := match f with
  | none => ⟨(fx (st 19)).nm, (fx (st 19)).sc, [w_ "feed", w_ "row", w_ "menu", w_ "turn", w_ "spot", w_ "way"], [.feed, row, .vls menuL, t, s, w]⟩
  | some f => ⟨(fx (st 19)).nm, (fx (st 19)).sc, [w_ "feed", w_ "row", w_ "menu", w_ "turn", w_ "spot", w_ "way", w_ "fresh"], [.feed, row, .vls menuL, t, s, w, f]⟩
noncomputable def bdS (n : Nat) (X : List V -> Hp -> Prop) : V -> Mine.Env -> Hp -> (Fl -> Mine.Env -> Hp -> Prop) -> Prop := fun v ρ' σ' Q' => evA LT n spT v ρ' σ' (fun ρ₂ σ₂ => evSs LT n spL ρ₂ σ₂ Q' X) X
noncomputable def spF (n : Nat) (Q : V -> Hp -> Prop) (X : List V -> Hp -> Prop) : Fl -> Mine.Env -> Hp -> Prop := seqK LT n (dropS spB 3) (fin0 Q) X
noncomputable def spG (n : Nat) (l : V) (Q : V -> Hp -> Prop) (X : List V -> Hp -> Prop) (k : Nat) : Prop := oP (fun js => forL (bdS (n + 144) X) (spF (n + 145) Q X) js (spρ l none) []) (forItems [] (.rng 0 (if (0 : Int) < Int.ofNat k - 2 then Int.ofNat k - 2 else 0)))
set_option tactic.hygienic false
theorem oP_at {α : Type} {F : α -> Prop} {o : Option α} {x : α} (h : o = some x) : oP F o = F x := by subst h; rfl
section
variable (n : Nat) (l : List V) (row v t s w : V) (j k : Nat) (x0 : V) (f : Option V) (x : Option (V × V × V × V)) (Q : V -> Hp -> Prop) (Q' : Fl -> Mine.Env -> Hp -> Prop) (X : List V -> Hp -> Prop)
theorem sp_i0 (K : Fl -> Mine.Env -> Hp -> Prop) : evSs LT (n + 148) spB ⟨(fx (st 19)).nm, (fx (st 19)).sc, (fx (st 19)).params, [.feed, row]⟩ [] K X = evSs LT (n + 146) (dropS spB 2) (spρ row none) [] K X := by kernel_rfl
theorem sp_i1 (T : Tab) (ρ : Mine.Env) (σ : Hp) (K : Fl -> Mine.Env -> Hp -> Prop) : evSs T (n + 146) (dropS spB 2) ρ σ K X = evE T (n + 144) (fI (nthS spB 2)) ρ σ (fun w σ₁ => oP (fun l => forL (fun v ρ' σ' Q' => evA T (n + 144) spT v ρ' σ' (fun ρ₂ σ₂ => evSs T (n + 144) spL ρ₂ σ₂ Q' X) X) (seqK T (n + 145) (dropS spB 3) K X) l ρ σ₁) (forItems σ₁ w)) X := by kernel_rfl
theorem sp_i2 : evE LT (n + 144) (fI (nthS spB 2)) (spρ row none) [] Q X = (∀ k : Nat, k < 4 + 1 -> Q (.rng 0 (if (0 : Int) < Int.ofNat k - 2 then Int.ofNat k - 2 else 0)) []) := by kernel_rfl
theorem sp_in : evF LT (n + 150) (w_ "_law_spoiled") [.feed, row] [] Q X = (∀ k : Nat, k < 4 + 1 -> spG n row Q X k) :=
  (evF_in (n := n + 149) (fn := fx (st 19)) (by kernel_rfl)).trans ((evD_in (n := n + 148) (bs := [.feed, row]) (by kernel_rfl)).trans ((sp_i0 ..).trans ((sp_i1 ..).trans (sp_i2 ..))))
theorem sp_0 : spG n row Q X 0 = forL (bdS (n + 144) X) (spF (n + 145) Q X) [] (spρ row none) [] := oP_at (o := forItems [] (.rng 0 (if (0 : Int) < Int.ofNat 0 - 2 then Int.ofNat 0 - 2 else 0))) (x := []) (by kernel_rfl)
theorem sp_1 : spG n row Q X 1 = forL (bdS (n + 144) X) (spF (n + 145) Q X) [] (spρ row none) [] := oP_at (o := forItems [] (.rng 0 (if (0 : Int) < Int.ofNat 1 - 2 then Int.ofNat 1 - 2 else 0))) (x := []) (by kernel_rfl)
theorem sp_2 : spG n row Q X 2 = forL (bdS (n + 144) X) (spF (n + 145) Q X) [] (spρ row none) [] := oP_at (o := forItems [] (.rng 0 (if (0 : Int) < Int.ofNat 2 - 2 then Int.ofNat 2 - 2 else 0))) (x := []) (by kernel_rfl)
theorem sp_3 : spG n row Q X 3 = forL (bdS (n + 144) X) (spF (n + 145) Q X) [.int 0] (spρ row none) [] := oP_at (o := forItems [] (.rng 0 (if (0 : Int) < Int.ofNat 3 - 2 then Int.ofNat 3 - 2 else 0))) (x := [.int 0]) (by kernel_rfl)
theorem sp_4 : spG n row Q X 4 = forL (bdS (n + 144) X) (spF (n + 145) Q X) [.int 0, .int 1] (spρ row none) [] := oP_at (o := forItems [] (.rng 0 (if (0 : Int) < Int.ofNat 4 - 2 then Int.ofNat 4 - 2 else 0))) (x := [.int 0, .int 1]) (by kernel_rfl)
theorem sp_end : spF (n + 145) Q X .next (spρ (.vls l) x) [] = finR Q l := by cases x <;> kernel_rfl
theorem sp_a (Q1 : Mine.Env -> Hp -> Prop) : evA LT (n + 144) spT v (spρ row x) [] Q1 X = Q1 ((spρ row x).put (w_ "turn") v) [] := by cases x <;> kernel_rfl
theorem sp_b : evS LT (n + 143) (nthS spL 0) ((spρ (.vls (x0 :: l)) x).put (w_ "turn") v) [] Q' X = ifB (Nat.ble l.length 4096) (∀ k : Nat, k < l.length + 1 -> Q' .next (((spρ (.vls (x0 :: l)) x).put (w_ "turn") v).put (w_ "spot") (.int (.ofNat k))) []) := by cases x <;> kernel_rfl
theorem sp_c : evS LT (n + 142) (nthS spL 1) (((spρ row x).put (w_ "turn") v).put (w_ "spot") s) [] Q' X = (∀ w : Nat, w < 2 + 1 -> Q' .next (spρ2 row v s (.int (.ofNat w)) (x.map fun y => y.2.2.2)) []) := by cases x <;> kernel_rfl
theorem sp_turn : bdS (n + 144) X v (spρ (.vls (x0 :: l)) x) [] Q' = ifB (Nat.ble l.length 4096) (∀ k : Nat, k < l.length + 1 -> ∀ w : Nat, w < 2 + 1 -> evSs LT (n + 142) (dropS spL 2) (spρ2 (.vls (x0 :: l)) v (.int (.ofNat k)) (.int (.ofNat w)) (x.map fun y => y.2.2.2)) [] Q' X) :=
  (sp_a ..).trans ((ss_eq (n := n + 143) (s := nthS spL 0) (r := dropS spL 1) (by kernel_rfl) _ _ _ _).trans ((sp_b ..).trans (congrArg (ifB _) (forall_congr fun k => forall_congr fun _ =>
    (ss_eq (n := n + 142) (s := nthS spL 1) (r := dropS spL 2) (by kernel_rfl) _ _ _ _).trans (sp_c ..)))))
theorem sp_w0 : evSs LT (n + 142) (dropS spL 2) (spρ2 (.vls l) t (.int (.ofNat k)) (.int (.ofNat 0)) f) [] Q' X = ifB (Nat.ble k l.length) (ifB (Nat.ble ((l.take k) ++ []).length 4096) (ifB (Nat.ble (k + 1) l.length) (ifB (Nat.ble (((l.take k) ++ []) ++ l.drop (k + 1)).length 4096) (Q' .next (spρ (.vls (((l.take k) ++ []) ++ l.drop (k + 1))) (some (t, .int (.ofNat k), .int (.ofNat 0), .vls []))) [])))) := by cases f <;> kernel_rfl
theorem sp_w1 : evSs LT (n + 142) (dropS spL 2) (spρ2 (.vls l) t (.int (.ofNat k)) (.int (.ofNat 1)) f) [] Q' X = (∀ j : Nat, j < 12 + 1 -> (match menuL[j]? with
    | some v => ifB (Nat.ble k l.length) (ifB (Nat.ble ((l.take k) ++ [v]).length 4096) (ifB (Nat.ble k l.length) (ifB (Nat.ble (((l.take k) ++ [v]) ++ l.drop k).length 4096) (Q' .next (spρ (.vls (((l.take k) ++ [v]) ++ l.drop k)) (some (t, .int (.ofNat k), .int (.ofNat 1), .vls [v]))) []))))
    | none => False)) := by cases f <;> kernel_rfl
theorem sp_w2 : evSs LT (n + 142) (dropS spL 2) (spρ2 (.vls l) t (.int (.ofNat k)) (.int (.ofNat 2)) f) [] Q' X = (∀ j : Nat, j < 12 + 1 -> (match menuL[j]? with
    | some v => ifB (Nat.ble k l.length) (ifB (Nat.ble ((l.take k) ++ [v]).length 4096) (ifB (Nat.ble (k + 1) l.length) (ifB (Nat.ble (((l.take k) ++ [v]) ++ l.drop (k + 1)).length 4096) (Q' .next (spρ (.vls (((l.take k) ++ [v]) ++ l.drop (k + 1))) (some (t, .int (.ofNat k), .int (.ofNat 2), .vls [v]))) []))))
    | none => False)) := by cases f <;> kernel_rfl
end
end Mine
end

section
open PySem PySem.W PySem.Calls PyProof.Rows
namespace Mine
set_option tactic.hygienic false
theorem menu_good : Good menuL := by
  unfold menuL
  repeat' first | exact good_nil | refine good_cons ?_ ?_ | exact tk _
theorem menu_at {j : Nat} (h : j < 12 + 1) : ∃ v, menuL[j]? = some v /\ isTk v := by
  have hl : j < menuL.length := h
  exact ⟨_, List.getElem?_eq_getElem hl, Good.get menu_good (List.getElem?_eq_getElem hl)⟩
section
variable {n : Nat} {X : List V -> Hp -> Prop}
theorem cut_ok {L F : List V} {k j : Nat} {P : Prop} (hj : j <= L.length) (h1 : k <= j) (h2 : F.length <= 1) (h4 : j <= k + 1) (h5 : j <= k + F.length + 1) (h50 : L.length <= 50) (h : L.length <= ((L.take k ++ F) ++ L.drop j).length + 1 -> ((L.take k ++ F) ++ L.drop j).length <= L.length + 1 -> P) :
    ifB (Nat.ble k L.length) (ifB (Nat.ble (L.take k ++ F).length 4096) (ifB (Nat.ble j L.length) (ifB (Nat.ble ((L.take k ++ F) ++ L.drop j).length 4096) P))) := by
  have e1 : (L.take k ++ F).length = k + F.length := by rw [List.length_append, List.length_take, Nat.min_eq_left (Nat.le_trans h1 hj)]
  have e2 : ((L.take k ++ F) ++ L.drop j).length = k + F.length + (L.length - j) := by rw [List.length_append, e1, List.length_drop]
  rw [e2] at h ⊢
  rw [e1]
  have q1 : k + F.length + (L.length - j) <= 4096 := by omega
  have q2 : k + F.length <= 4096 := by omega
  exact ifB_of (Nat.ble_eq_true_of_le (Nat.le_trans h1 hj)) (ifB_of (Nat.ble_eq_true_of_le q2) (ifB_of (Nat.ble_eq_true_of_le hj) (ifB_of (Nat.ble_eq_true_of_le q1) (h (by omega) (by omega)))))
theorem sp_step {L : List V} {x : Option (V × V × V × V)} {v : V} {Q' : Fl -> Mine.Env -> Hp -> Prop} (g : Good L) (h1 : 1 <= L.length) (h2 : L.length <= 50)
    (K : ∀ L' y, Good L' -> L.length <= L'.length + 1 -> L'.length <= L.length + 1 -> Q' .next (spρ (.vls L') (some y)) []) : bdS (n + 144) X v (spρ (.vls L) x) [] Q' := by
  cases L with
  | nil => cases h1
  | cons x0 l =>
    rw [sp_turn]
    refine ifB_of (Nat.ble_eq_true_of_le (Nat.le_trans (Nat.le_of_succ_le h2) (by decide))) fun k hk w hw => ?_
    have hk1 : k + 1 <= (x0 :: l).length := hk
    match w, hw with
    | 0, _ =>
      rw [sp_w0]
      exact cut_ok hk1 (Nat.le_succ k) (Nat.zero_le 1) (Nat.le_refl _) (Nat.le_refl _) h2 fun a b => K _ _ (Good.app (Good.app (Good.take k g) good_nil) (Good.drop (k + 1) g)) a b
    | 1, _ =>
      rw [sp_w1]
      intro j hj
      obtain ⟨v', e, hv⟩ := menu_at hj
      rw [e]
      exact cut_ok (Nat.le_of_succ_le hk1) (Nat.le_refl k) (Nat.le_refl 1) (Nat.le_succ k) (Nat.le_add_right k 2) h2 fun a b => K _ _ (Good.app (Good.app (Good.take k g) (good_cons hv good_nil)) (Good.drop k g)) a b
    | 2, _ =>
      rw [sp_w2]
      intro j hj
      obtain ⟨v', e, hv⟩ := menu_at hj
      rw [e]
      exact cut_ok hk1 (Nat.le_succ k) (Nat.le_refl 1) (Nat.le_refl _) (Nat.le_succ (k + 1)) h2 fun a b => K _ _ (Good.app (Good.app (Good.take k g) (good_cons hv good_nil)) (Good.drop (k + 1) g)) a b
    | w + 3, hw => exact absurd hw (by omega)
noncomputable def forK (bd : V -> Mine.Env -> Hp -> (Fl -> Mine.Env -> Hp -> Prop) -> Prop) (Q : Fl -> Mine.Env -> Hp -> Prop) (r : List V) : Fl -> Mine.Env -> Hp -> Prop := fun f ρ σ => match f with
  | .next => forL bd Q r ρ σ
  | .cont => forL bd Q r ρ σ
  | .brk => Q .next ρ σ
  | .ret x => Q (.ret x) ρ σ
section
variable {bd : V -> Mine.Env -> Hp -> (Fl -> Mine.Env -> Hp -> Prop) -> Prop} {Q : Fl -> Mine.Env -> Hp -> Prop} {v : V} {r : List V} {ρ : Mine.Env} {σ : Hp}
theorem for_nil (h : Q .next ρ σ) : forL bd Q [] ρ σ := h
theorem for_cons (h : bd v ρ σ (forK bd Q r)) : forL bd Q (v :: r) ρ σ := h
theorem for_next (h : forL bd Q r ρ σ) : forK bd Q r .next ρ σ := h
end
theorem spoil_ok {l : List V} {Q : V -> Hp -> Prop} (g : Good l) (h1 : 3 <= l.length) (h2 : l.length <= 20) (H : ∀ L, Good L -> L.length <= 22 -> Q (.vls L) []) : evF LT (n + 150) (w_ "_law_spoiled") [.feed, .vls l] [] Q X := by
  rw [sp_in]
  have fin : ∀ {L : List V} {x : Option (V × V × V × V)}, Good L -> L.length <= 22 -> spF (n + 145) Q X .next (spρ (.vls L) x) [] := fun {L x} g hL => by
    rw [sp_end]
    exact ifB_of (isDb_good g) (H L g hL)
  intro k hk
  match k, hk with
  | 0, _ => rw [sp_0]; exact for_nil (fin g (by omega))
  | 1, _ => rw [sp_1]; exact for_nil (fin g (by omega))
  | 2, _ => rw [sp_2]; exact for_nil (fin g (by omega))
  | 3, _ =>
    rw [sp_3]
    exact for_cons (sp_step g (by omega) (by omega) fun L y gL a b => for_next (for_nil (fin gL (by omega))))
  | 4, _ =>
    rw [sp_4]
    exact for_cons (sp_step g (by omega) (by omega) fun L y gL a b => for_next (for_cons (sp_step gL (by omega) (by omega) fun L2 y2 gL2 a2 b2 => for_next (for_nil (fin gL2 (by omega))))))
  | k + 5, hk => omega
end
noncomputable def nmL : List V := [.str [97], .str [98], .str [99], .str [113]]
noncomputable def lE (ks : List N) (vs : List V) : Mine.Env := ⟨(fx (st 25)).nm, (fx (st 25)).sc, ks, vs⟩
noncomputable def lρ1 (P : V) : Mine.Env := lE [w_ "moves", w_ "feed", w_ "ports"] [.dct mvN, .feed, P]
noncomputable def lρ2 (P R : V) : Mine.Env := lE [w_ "moves", w_ "feed", w_ "ports", w_ "row"] [.dct mvN, .feed, P, R]
noncomputable def poD : V -> (V -> Prop) -> Prop := fun _ K => ∀ j : Nat, j < 3 + 1 -> (match nmL[j]? with
  | some y => K y
  | none => False)
noncomputable def poG (K : Fl -> Mine.Env -> Hp -> Prop) (k : Nat) : Prop := oP (fun l => compL poD l [] (fun ys => binW [] .Add (.vls [.str [113]]) (.vls ys) (fun v σ => K .next (lρ1 v) σ))) (forItems [] (.rng 0 (Int.ofNat k)))
noncomputable def tailR (K : Fl -> Mine.Env -> Hp -> Prop) (ρ : V -> Mine.Env) (a b : V) (L : List V) (k : Nat) : Prop := sliceW [] (.vls [a, b]) (.int (.ofNat k)) .none (fun sv σ4 => binW σ4 .Add (.vls L) sv (fun rv σ5 => K .next (ρ rv) σ5))
theorem kn_sp : known (LF LT.fns) (w_ "_law_spoiled") = true := by kernel_rfl
theorem kn_li : known (LF LT.fns) (w_ "_law_listed") = true := by kernel_rfl
theorem kn_br : known (LF LT.fns) (w_ "_law_bracketed") = true := by kernel_rfl
theorem kn_pick : known (LF LT.fns) n_pick = true := by kernel_rfl
section
variable (P R : V) (K : Fl -> Mine.Env -> Hp -> Prop) (X : List V -> Hp -> Prop) (L : List V)
theorem po_in : evS LT 340 (nthS lF 0) lρ [] K X = (∀ k : Nat, k < 3 + 1 -> poG K k) := by kernel_rfl
theorem po_0 : poG K 0 = K .next (lρ1 (.vls [.str [113]])) [] := by kernel_rfl
theorem po_1 : poG K 1 = poD (.int 0) (fun a => K .next (lρ1 (.vls [.str [113], a])) []) := by kernel_rfl
theorem po_2 : poG K 2 = poD (.int 0) (fun a => poD (.int 1) fun b => K .next (lρ1 (.vls [.str [113], a, b])) []) := by kernel_rfl
theorem po_3 : poG K 3 = poD (.int 0) (fun a => poD (.int 1) fun b => poD (.int 2) fun c => K .next (lρ1 (.vls [.str [113], a, b, c])) []) := by kernel_rfl
theorem row_lsT (F : List (N × Fn)) : evS (LF F) 340 (nthS lF 1) (lρ1 P) [] K X = ifB (known (LF F) (w_ "_law_spoiled")) (ifB (known (LF F) (w_ "_law_listed")) (evF (LF F) 334 (w_ "_law_listed") [.feed, P] [] (fun v σ => evF (LF F) 337 (w_ "_law_spoiled") [.feed, v] σ (fun v2 σ2 => ifB (known (LF F) n_pick) (evF (LF F) 335 n_pick [.feed, .int 3] σ2 (fun kv σ3 => sliceW σ3 (.vls [prV .ktab, prV .osem]) kv .none (fun sv σ4 => binW σ4 .Add v2 sv (fun rv σ5 => K .next (lρ2 P rv) σ5))) X)) X) X)) := by kernel_rfl
theorem row_ls : evS LT 340 (nthS lF 1) (lρ1 P) [] K X = evF LT 334 (w_ "_law_listed") [.feed, P] [] (fun v σ => evF LT 337 (w_ "_law_spoiled") [.feed, v] σ (fun v2 σ2 => evF LT 335 n_pick [.feed, .int 3] σ2 (fun kv σ3 => sliceW σ3 (.vls [prV .ktab, prV .osem]) kv .none (fun sv σ4 => binW σ4 .Add v2 sv (fun rv σ5 => K .next (lρ2 P rv) σ5))) X) X) X := by
  refine (row_lsT P K X LT.fns).trans ?_
  rw [kn_sp, kn_li, ifB_t, ifB_t]
  simp only [kn_pick, ifB_t]
  rfl
theorem row_brT (F : List (N × Fn)) : evS (LF F) 340 (nthS lF 3) (lρ2 P R) [] K X = ifB (known (LF F) (w_ "_law_spoiled")) (ifB (known (LF F) (w_ "_law_bracketed")) (evF (LF F) 334 (w_ "_law_bracketed") [.feed, P] [] (fun v σ => evF (LF F) 337 (w_ "_law_spoiled") [.feed, v] σ (fun v2 σ2 => ifB (known (LF F) n_pick) (evF (LF F) 335 n_pick [.feed, .int 3] σ2 (fun kv σ3 => sliceW σ3 (.vls [prV .kini, prV .iq]) kv .none (fun sv σ4 => binW σ4 .Add v2 sv (fun rv σ5 => K .next (lρ2 P rv) σ5))) X)) X) X)) := by kernel_rfl
theorem row_br : evS LT 340 (nthS lF 3) (lρ2 P R) [] K X = evF LT 334 (w_ "_law_bracketed") [.feed, P] [] (fun v σ => evF LT 337 (w_ "_law_spoiled") [.feed, v] σ (fun v2 σ2 => evF LT 335 n_pick [.feed, .int 3] σ2 (fun kv σ3 => sliceW σ3 (.vls [prV .kini, prV .iq]) kv .none (fun sv σ4 => binW σ4 .Add v2 sv (fun rv σ5 => K .next (lρ2 P rv) σ5))) X) X) X := by
  refine (row_brT P R K X LT.fns).trans ?_
  rw [kn_sp, kn_br, ifB_t, ifB_t]
  simp only [kn_pick, ifB_t]
  rfl
theorem tl_in (a b : V) (ρ : V -> Mine.Env) : evF LT 335 n_pick [.feed, .int 3] [] (fun kv σ3 => sliceW σ3 (.vls [a, b]) kv .none (fun sv σ4 => binW σ4 .Add (.vls L) sv (fun rv σ5 => K .next (ρ rv) σ5))) X = (∀ k : Nat, k < 2 + 1 -> tailR K ρ a b L k) := by kernel_rfl
theorem tl_0 (a b : V) (ρ : V -> Mine.Env) : tailR K ρ a b L 0 = ifB (Nat.ble (L ++ [a, b]).length 4096) (K .next (ρ (.vls (L ++ [a, b]))) []) := by kernel_rfl
theorem tl_1 (a b : V) (ρ : V -> Mine.Env) : tailR K ρ a b L 1 = ifB (Nat.ble (L ++ [b]).length 4096) (K .next (ρ (.vls (L ++ [b]))) []) := by kernel_rfl
theorem tl_2 (a b : V) (ρ : V -> Mine.Env) : tailR K ρ a b L 2 = ifB (Nat.ble (L ++ []).length 4096) (K .next (ρ (.vls (L ++ []))) []) := by kernel_rfl
end
end Mine
end

section
open PySem PySem.W PySem.Calls PyProof.Rows
namespace Mine
set_option tactic.hygienic false
theorem poD_ok {v : V} {K : V -> Prop} (h : ∀ s, isTk (nmV s) -> K (.str s)) : poD v K := by
  intro j hj
  match j, hj with
  | 0, _ => exact h [97] ⟨.ia, rfl⟩
  | 1, _ => exact h [98] ⟨.ib, rfl⟩
  | 2, _ => exact h [99] ⟨.ic, rfl⟩
  | 3, _ => exact h [113] ⟨.iq, rfl⟩
  | j + 4, hj => omega
theorem po_ok {K : Fl -> Mine.Env -> Hp -> Prop} {X : List V -> Hp -> Prop} (h : ∀ I : List N, I.length <= 3 -> (∀ s ∈ I, isTk (nmV s)) -> K .next (lρ1 (.vls (.str [113] :: I.map .str))) []) : evS LT 340 (nthS lF 0) lρ [] K X := by
  rw [po_in]
  intro k hk
  match k, hk with
  | 0, _ => rw [po_0]; exact h [] (by simp) (fun s hs => nomatch hs)
  | 1, _ =>
    rw [po_1]
    exact poD_ok fun a ha => h [a] (by simp) (fun s hs => by simp at hs; subst hs; exact ha)
  | 2, _ =>
    rw [po_2]
    exact poD_ok fun a ha => poD_ok fun b hb => h [a, b] (by simp) (fun s hs => by simp at hs; rcases hs with rfl | rfl <;> assumption)
  | 3, _ =>
    rw [po_3]
    exact poD_ok fun a ha => poD_ok fun b hb => poD_ok fun c hc => h [a, b, c] (by simp) (fun s hs => by simp at hs; rcases hs with rfl | rfl | rfl <;> assumption)
  | k + 4, hk => omega
theorem tail_ok {K : Fl -> Mine.Env -> Hp -> Prop} {X : List V -> Hp -> Prop} {ρ : V -> Mine.Env} {a b : V} {L : List V} (ha : isTk a) (hb : isTk b) (g : Good L) (hl : L.length <= 22) (h : ∀ L, Good L -> L.length <= 24 -> K .next (ρ (.vls L)) []) :
    evF LT 335 n_pick [.feed, .int 3] [] (fun kv σ3 => sliceW σ3 (.vls [a, b]) kv .none (fun sv σ4 => binW σ4 .Add (.vls L) sv (fun rv σ5 => K .next (ρ rv) σ5))) X := by
  rw [tl_in]
  intro k hk
  match k, hk with
  | 0, _ => rw [tl_0]; exact ifB_of (Nat.ble_eq_true_of_le (by simp; omega)) (h _ (Good.app g (good_cons ha (good_cons hb good_nil))) (by simp; omega))
  | 1, _ => rw [tl_1]; exact ifB_of (Nat.ble_eq_true_of_le (by simp; omega)) (h _ (Good.app g (good_cons hb good_nil)) (by simp; omega))
  | 2, _ => rw [tl_2]; exact ifB_of (Nat.ble_eq_true_of_le (by simp; omega)) (h _ (Good.app g good_nil) (by simp; omega))
  | k + 3, hk => omega
section
variable {I : List N} {K : Fl -> Mine.Env -> Hp -> Prop} {X : List V -> Hp -> Prop}
theorem row_ls_ok (hI : I.length <= 3) (hn : ∀ s ∈ I, isTk (nmV s)) (h : ∀ L, Good L -> L.length <= 24 -> K .next (lρ2 (.vls (.str [113] :: I.map .str)) (.vls L)) []) : evS LT 340 (nthS lF 1) (lρ1 (.vls (.str [113] :: I.map .str))) [] K X := by
  rw [row_ls]
  refine li_ok (n := 184) hI hn fun L g h1 h2 => ?_
  refine spoil_ok (n := 187) g h1 h2 fun L' g' h' => ?_
  exact tail_ok (tk _) (tk _) g' h' h
theorem row_br_ok {R : V} (hI : I.length <= 3) (hn : ∀ s ∈ I, isTk (nmV s)) (h : ∀ L, Good L -> L.length <= 24 -> K .next (lρ2 (.vls (.str [113] :: I.map .str)) (.vls L)) []) : evS LT 340 (nthS lF 3) (lρ2 (.vls (.str [113] :: I.map .str)) R) [] K X := by
  rw [row_br]
  refine br_ok (n := 184) hI hn fun L g h1 h2 => ?_
  refine spoil_ok (n := 187) g h1 h2 fun L' g' h' => ?_
  exact tail_ok (tk _) (tk _) g' h' h
theorem args_ls (P R : V) (Q : List V -> Hp -> Prop) : evEs LT 340 (nA (nthS lF 2)) (lρ2 P R) [] Q X = evF LT (36 + 301) (w_ "_law_placed") [R] [] (fun v σ => Q [.dct mvN, v, P, .bool false] σ) X := by kernel_rfl
theorem args_br (P R : V) (Q : List V -> Hp -> Prop) : evEs LT 340 (nA (nthS lF 4)) (lρ2 P R) [] Q X = evF LT (36 + 301) (w_ "_law_placed") [R] [] (fun v σ => Q [.dct mvN, v, P, .bool true] σ) X := by kernel_rfl
theorem plc_good {L : List V} {Q : V -> Prop} (g : Good L) (hl : L.length <= 24) (h : ∀ r : List (Tk × Int), r.length <= 24 -> Q (.vls (r.map plV))) : tPlaced [.vls L] Q := by
  obtain ⟨r, rfl⟩ := g.toks
  have hr : r.length <= 24 := by simpa using hl
  exact plc_ev (by omega) (h _ (by rw [plcF_len]; exact hr))
end
theorem hasR2 (P R : V) : HasR (lρ2 P R) := ⟨by kernel_rfl, by kernel_rfl⟩
theorem turn_all : tTurn := by
  refine ⟨po_ok fun I hI hn => ?_⟩
  show EvS (nthS lF 1) _ _
  refine ⟨row_ls_ok hI hn fun L g hL => ?_⟩
  show TArgs (nA (nthS lF 2)) _ _
  refine ⟨Eq.mpr (args_ls ..) (Eq.mpr (orc_placed ..) (plc_good g hL fun r hr => ⟨rfl, _, _, _, _, rfl, right_ls (P := I) (by omega) (by omega), ?_⟩))⟩
  refine ⟨row_br_ok hI hn fun L2 g2 hL2 => ?_⟩
  show TArgs (nA (nthS lF 4)) _ _
  exact ⟨Eq.mpr (args_br ..) (Eq.mpr (orc_placed ..) (plc_good g2 hL2 fun r2 hr2 => ⟨rfl, _, _, _, _, rfl, right_br (P := [113] :: I) (by omega), hasR2 _ _⟩))⟩
noncomputable def fx1 : List V := [prV .kreg, prV .iq, prV .osem, prV .kinp, prV .ia, prV .osem]
noncomputable def fx2 : List V := [prV .kout, prV .iq, prV .oeq, prV .s6, prV .osem]
noncomputable def fρ (R : List V) : Mine.Env := lE [w_ "moves", w_ "feed", w_ "fixed"] [.dct mvN, .feed, .vls R]
section
variable (K : Fl -> Mine.Env -> Hp -> Prop) (X : List V -> Hp -> Prop)
theorem fix_1 : evS LT 340 (nthS lB 2) lρ [] K X = K .next (fρ fx1) [] := by kernel_rfl
theorem fix_2 : evS LT 340 (nthS lB 3) (fρ fx1) [] K X = K .next (fρ (fx1 ++ fx2)) [] := by kernel_rfl
theorem fix_3 (R : List V) (Q : List V -> Hp -> Prop) : evEs LT 340 (nA (nthS lB 4)) (fρ R) [] Q X = evF LT (36 + 301) (w_ "_law_placed") [.vls R] [] (fun v σ => Q [.dct mvN, v, .vls [.str [113], .str [97]], .bool false] σ) X := by kernel_rfl
end
theorem fix_good : Good (fx1 ++ fx2) := by
  show Good [prV .kreg, prV .iq, prV .osem, prV .kinp, prV .ia, prV .osem, prV .kout, prV .iq, prV .oeq, prV .s6, prV .osem]
  repeat' first | exact good_nil | refine good_cons ?_ ?_ | exact tk _
theorem fixed_all : tFixed := by
  refine ⟨Eq.mpr (fix_1 ..) ?_⟩
  show EvS (nthS lB 3) _ _
  refine ⟨Eq.mpr (fix_2 ..) ?_⟩
  show TArgs (nA (nthS lB 4)) _ _
  exact ⟨Eq.mpr (fix_3 ..) (Eq.mpr (orc_placed ..) (plc_good fix_good (by decide) fun r hr => ⟨rfl, _, _, _, _, rfl, right_ls (P := [[97]]) (by omega) (by decide), by kernel_rfl, by kernel_rfl⟩))⟩
end Mine
end

section
open PySem PySem.W PySem.W.X PyProof.Rows
namespace Mine
open PySem.W.Fast
set_option tactic.hygienic false
theorem left0 : LeftO pw_sj0033_01 qv [Str.ofString "GateloomError"] (fun s => xlAt qv [] s && recOk [] s) (fun s => K0a.map s.heap.get?) (fun w => (K0 w.params).map fun p => some p.2) 4292 := by
  intro w
  unfold openEnds fencedOpening topFrom
  rw [te4187177175401517315, te14082659384304107361, te10274390034422433532, te14289696077712309145, te14364793385576792824, te1435165496053646825, te8920871248978507458, te5923862056798008813]
  kernel_rfl
end Mine
end

section
open PySem PySem.W PySem.W.X PyProof.Rows
namespace Mine
set_option tactic.hygienic false
theorem said0 : PySem.Challenge.rw_sj0033_01.wellSaid = true := by
  unfold OpenLaw.wellSaid
  with_reducible repeat' refine look_both ?_ ?_
  any_goals (unfold OpenRow.wellSaid OpenRow.partSaid looksOpen; with_reducible repeat' refine look_both ?_ ?_)
  all_goals decide +kernel
end Mine
end

section
open PySem PySem.W PySem.W.X PyProof.Rows
namespace Mine
theorem head0 : PySem.Challenge.rw_sj0033_01.Holds := by
  w_on
  refine holds_law said0 fun said => ?_
  refine holds_open (q := qv) (loose := [Str.ofString "GateloomError"]) (Xt := fun s => xlAt qv [] s && recOk [] s) (XP := XL qv []) (Yf := Hook.obs (kHook K0 K0a K0_as)) (Ya := Hook.val (kHook K0 K0a K0_as)) (YP := Hook.says (kHook K0 K0a K0_as)) (N := 4292) ?hl (Hook.of _) (Hook.keeps _)
    (fun s e => xl_of s (Bool.and_eq_true_iff.mp e).1) XL.keeps (by rfl) (by rfl) (by rfl) (fun s e => recFacts_of (Bool.and_eq_true_iff.mp e).2) (by rfl) (by first | assumption | decide +kernel) (by decide +kernel) ⟨rfl, rfl, rfl, rfl, rfl, by decide +kernel⟩ ?hw ?hc
  case hl => exact left0
  case hw => w_witness2
  case hc =>
    intro w s₀ s₁ mg mb G Y fa o pm cd doc dV kV ho hd hcd hD hmg hg args vals as hpre hlay hrd hwl hlo
    have KX := kIn_of Y
    have V := (Ground.X G).2
    refine Ground.open G ?_
    intro T B D TE TW
    clear D
    obtain ⟨_, _, M⟩ := bmod_of_top T
    have TA := at_of_top T
    clear hmg
    wrow_args hpre hlay hrd hwl hlo
    all_goals (
      refine enter_call ?_
      w_top on
      have K0x := below_caller (Top.heap T)
      w_call any ho hd hcd hD T F
      clear hd TA
      k_drop)
    rename Below _ _ _ _ => Bx
    rename Top _ _ _ _ _ _ => Tx
    rename Fr _ _ _ _ => Fx
    rename News _ _ _ _ => Nx
    rename Heap.IsList _ _ _ => hLx
    rename IntsAre _ _ => hIx
    rename ¬ _ => hcx
    rename Obj.data _ = _ => hox
    refine law_walk (s2 := nthS lB 2) (s3 := nthS lB 3) fixed_all turn_all Bx KX ⟨_, _, _, Tx⟩ Fx Nx hox ?_ hLx hIx ?_ ?_ ?_
    · first | rfl | kernel_rfl
    · have hl := hIx.length
      have hc : ¬ (63 : Int) < ((_ : List Int).length : Int) := hcx
      omega
    · exact PassesOwn.leaving
    · intro h' tk' m' F'
      refine GoodW.toG ⟨.inl ⟨.bool true, .bool true, [], rfl, ?_, .bool true, ?_, ?_⟩, F'.keep, rfl, hg⟩
      · exact fun cls => by rfl
      · wrow_post
      · intro hu; exact ⟨List.nodup_nil, fun a ha => nomatch ha⟩
end Mine
end

open PySem PySem.W PyProof.Rows
theorem PySem.Challenge.cw_sj0033_01_holds : PySem.Challenge.rw_sj0033_01.Holds := by
  exact Mine.head0
