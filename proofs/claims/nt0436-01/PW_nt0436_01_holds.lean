import PyProof.Rows.All
import Wide.All
import OpenK.AllK
import Wide.FinOn
import Lean
import PySem.Challenge.RW_nt0436_01
set_option Elab.async false
set_option genSizeOf false
set_option genSizeOfSpec false
set_option genInjectivity false
namespace Mine
theorem yy0 {α : Type _} {a : α} {as : List α} : (a :: as).length = as.length + 1 := rfl
theorem yy1 {α : Type _} : ([] : List α).length = 0 := rfl
theorem yy2 {α : Type _} {a : α} {as : List α} {b : α} : (a :: as).set 0 b = b :: as := rfl
theorem yy3 {α : Type _} {a : α} {as : List α} {n : Nat} {b : α} : (a :: as).set (n + 1) b = a :: as.set n b := rfl
theorem yy4 {α : Type _} {a : α} {l : List α} : (a :: l)[0]? = some a := rfl
theorem yy5 {α : Type _} {a : α} {l : List α} {i : Nat} : (a :: l)[i + 1]? = l[i]? := rfl
theorem yy6 {p : Prop} [Decidable p] : (decide p = true) = p := _root_.decide_eq_true_eq
theorem yy7 (n : Nat) : 0 + n = n := _root_.Nat.zero_add n
theorem yy8 (p : Prop) : (True ∧ p) = p := _root_.true_and p
theorem yy9 (p : Prop) : (p ∧ True) = p := _root_.and_true p
theorem bft : ¬ (false = true) := _root_.Bool.false_ne_true
end Mine

section
namespace Mine


inductive PV where
  | none
  | bool (b : Bool)
  | int (i : Int)
  | tup (vs : List PV)
  | lst (vs : List PV)
  | rng (a b c : Int)
  | loc (l : Nat)

inductive AObj where
  | dead
  | list (vs : List PV)
  | inst (c : Nat) (fs : List (Nat × PV))

noncomputable abbrev AH := List AObj
noncomputable abbrev Vars := List (Option PV)

inductive Bop where | add | sub | mul | fdiv | mod | shl | shr | band | bor
inductive Cop where | lt | gt | le | ge | eq | ne | isin
inductive Fn where | abs | min2 | len | sum | range1 | range2 | range3 | user (f : Nat) | cls (c : Nat)

mutual
inductive Ex where
  | const (v : PV)
  | glob (g : Nat)
  | var (i : Nat)
  | bin (o : Bop) (a b : Ex)
  | neg (a : Ex)
  | inv (a : Ex)
  | not (a : Ex)
  | and (es : Exs)
  | or (es : Exs)
  | cmp (o : Cop) (a b : Ex)
  | cmp2 (o1 o2 : Cop) (a b c : Ex)
  | ite (c a b : Ex)
  | attr (a : Ex) (k : Nat)
  | item (a i : Ex)
  | sliceFrom (a : Ex) (lo : Int)
  | call (f : Fn) (es : Exs)
  | append (a b : Ex)
  | count (a b : Ex)
  | list (es : Exs)
  | tuple (es : Exs)
  | comp (nt : Nat) (caps : List Nat) (elt iter : Ex) (conds : Exs)
inductive Exs where
  | nil
  | cons (e : Ex) (es : Exs)
end

mutual
inductive St where
  | assign (i : Nat) (e : Ex)
  | assignTup (is : List Nat) (e : Ex)
  | setAttr (o : Ex) (k : Nat) (e : Ex)
  | setItem (o i e : Ex)
  | aug (i : Nat) (o : Bop) (e : Ex)
  | augItem (a i : Ex) (o : Bop) (e : Ex)
  | expr (e : Ex)
  | ite (c : Ex) (t f : Sts)
  | while (c : Ex) (b : Sts)
  | for (ts : List Nat) (it : Ex) (b : Sts)
  | ret (e : Ex)
  | stop
inductive Sts where
  | nil
  | cons (s : St) (ss : Sts)
end

inductive Flw where
  | next
  | ret (v : PV)

noncomputable def truthy : PV → Option Bool
  | .none => some false
  | .bool b => some b
  | .int i => some (decide (i ≠ 0))
  | _ => none

noncomputable def items (H : AH) : PV → Option (List PV)
  | .lst vs => some vs
  | .loc l => match H[l]? with
    | some (.list vs) => some vs
    | _ => none
  | _ => none
noncomputable def unpk (H : AH) : PV → Option (List PV)
  | .tup vs => some vs
  | v => items H v


section
variable {α β : Type}
noncomputable def ob (r : Option (α × AH)) (k : α → AH → Option β) : Option β := match r with
  | some (x, H) => k x H
  | none => none
noncomputable def oo (r : Option α) (k : α → Option β) : Option β := match r with
  | some x => k x
  | none => none
noncomputable def og (c : Bool) (k : Option β) : Option β := match c with
  | true => k
  | false => none
noncomputable def oi (v : PV) (k : Int → Option β) : Option β := @PV.casesOn (fun _ => Option β) v none (fun _ => none) k (fun _ => none) (fun _ => none) (fun _ _ _ => none) (fun _ => none)
noncomputable def ol (v : PV) (k : Nat → Option β) : Option β := @PV.casesOn (fun _ => Option β) v none (fun _ => none) (fun _ => none) (fun _ => none) (fun _ => none) (fun _ _ _ => none) k
noncomputable def on (v : PV) (k : Option β) : Option β := @PV.casesOn (fun _ => Option β) v k (fun _ => none) (fun _ => none) (fun _ => none) (fun _ => none) (fun _ _ _ => none) (fun _ => none)
noncomputable def oL (H : AH) (l : Nat) (k : List PV → Option β) : Option β := match H[l]? with
  | some (.list vs) => k vs
  | _ => none
noncomputable def o1 (vs : List α) (k : α → Option β) : Option β := match vs with
  | v :: r => (match r with | [] => k v | _ :: _ => none)
  | [] => none
noncomputable def oc (vs : List α) (k : α → List α → Option β) : Option β := match vs with
  | v :: r => k v r
  | [] => none
variable {C : Prop} {y : β}
theorem ob_el {r : Option (α × AH)} {k : α → AH → Option β} (h : ob r k = some y) (f : ∀ x H, r = some (x, H) → k x H = some y → C) : C := by
  cases r with
  | none => cases h
  | some p => exact f p.1 p.2 rfl h
theorem oo_el {r : Option α} {k : α → Option β} (h : oo r k = some y) (f : ∀ x, r = some x → k x = some y → C) : C := by
  cases r with
  | none => cases h
  | some p => exact f p rfl h
theorem og_el {c : Bool} {k : Option β} (h : og c k = some y) (f : c = true → k = some y → C) : C := by
  cases c with
  | false => cases h
  | true => exact f rfl h
theorem nse (h : (none : Option β) = some y) : C := Option.noConfusion rfl (heq_of_eq h)
theorem oi_el {v : PV} {k : Int → Option β} (h : oi v k = some y) (f : ∀ i, v = .int i → k i = some y → C) : C :=
  @PV.casesOn (fun v' => v = v' → oi v' k = some y → C) v (fun _ => nse) (fun _ _ => nse) f (fun _ _ => nse) (fun _ _ => nse) (fun _ _ _ _ => nse) (fun _ _ => nse) rfl h
theorem ol_el {v : PV} {k : Nat → Option β} (h : ol v k = some y) (f : ∀ i, v = .loc i → k i = some y → C) : C :=
  @PV.casesOn (fun v' => v = v' → ol v' k = some y → C) v (fun _ => nse) (fun _ _ => nse) (fun _ _ => nse) (fun _ _ => nse) (fun _ _ => nse) (fun _ _ _ _ => nse) f rfl h
theorem on_el {v : PV} {k : Option β} (h : on v k = some y) (f : v = .none → k = some y → C) : C :=
  @PV.casesOn (fun v' => v = v' → on v' k = some y → C) v f (fun _ _ => nse) (fun _ _ => nse) (fun _ _ => nse) (fun _ _ => nse) (fun _ _ _ _ => nse) (fun _ _ => nse) rfl h
theorem oL_el {H : AH} {l : Nat} {k : List PV → Option β} (h : oL H l k = some y) (f : ∀ vs, H[l]? = some (.list vs) → k vs = some y → C) : C := by
  unfold oL at h
  cases e : H[l]? with
  | none => rw [e] at h; cases h
  | some o =>
    rw [e] at h
    cases o with
    | list vs => exact f vs e h
    | _ => cases h
theorem oc_el {vs : List α} {k : α → List α → Option β} (h : oc vs k = some y) (f : ∀ v r, vs = v :: r → k v r = some y → C) : C := by
  cases vs with
  | nil => cases h
  | cons v r => exact f v r rfl h
theorem o1_el {vs : List α} {k : α → Option β} (h : o1 vs k = some y) (f : ∀ v, vs = [v] → k v = some y → C) : C := by
  cases vs with
  | nil => cases h
  | cons v r =>
    cases r with
    | nil => exact f v rfl h
    | cons _ _ => cases h
theorem obi_el {r : Option (PV × AH)} {k : Int → AH → Option β} (h : ob r (fun x H => oi x fun i => k i H) = some y) (f : ∀ i H, r = some (.int i, H) → k i H = some y → C) : C :=
  ob_el h fun _ H e h => oi_el h fun i q h => f i H (q ▸ e) h
theorem obl_el {r : Option (PV × AH)} {k : Nat → AH → Option β} (h : ob r (fun x H => ol x fun i => k i H) = some y) (f : ∀ i H, r = some (.loc i, H) → k i H = some y → C) : C :=
  ob_el h fun _ H e h => ol_el h fun i q h => f i H (q ▸ e) h
theorem obn_el {r : Option (PV × AH)} {k : AH → Option β} (h : ob r (fun x H => on x (k H)) = some y) (f : ∀ H, r = some (.none, H) → k H = some y → C) : C :=
  ob_el h fun _ H e h => on_el h fun q h => f H (q ▸ e) h
end
@[elab_as_elim] theorem sm_el {α β : Type} {P : α → β → Prop} {a v : α} {b w : β} (h : some (a, b) = some (v, w)) (k : P a b) : P v w := by cases h; exact k
@[elab_as_elim] theorem s3_el {α β γ : Type} {P : α → β → γ → Prop} {a v : α} {b w : β} {c u : γ} (h : some (a, b, c) = some (v, w, u)) (k : P a b c) : P v w u := by cases h; exact k
@[elab_as_elim] theorem so_el {α : Type} {P : α → Prop} {a v : α} (h : some a = some v) (k : P a) : P v := by cases h; exact k
noncomputable def oe {α β : Type} (r : Option α) (d : β) (k : α → β) : β := match r with
  | some a => k a
  | none => d
theorem oe_el {α β : Type} {C : Prop} {r : Option α} {d : β} {k : α → β} {y : β} (h : oe r d k = y) (f : ∀ a, r = some a → k a = y → C) (g : d = y → C) : C := by
  cases r with
  | none => exact g h
  | some a => exact f a rfl h
theorem and_el {a b : Bool} {C : Prop} (h : (a && b) = true) (f : a = true → b = true → C) : C := f (Bool.and_eq_true_iff.mp h).1 (Bool.and_eq_true_iff.mp h).2

noncomputable def ints? : List PV → Option (List Int)
  | [] => some []
  | v :: r => oi v fun i => oo (ints? r) fun is => some (i :: is)
noncomputable def pair? : PV → Option (Int × Int)
  | .tup vs => oc vs fun u r => o1 r fun v => oi u fun i => oi v fun j => some (i, j)
  | _ => none
noncomputable def pairs? : List PV → Option (List (Int × Int))
  | [] => some []
  | v :: r => oo (pair? v) fun p => oo (pairs? r) fun ps => some (p :: ps)

noncomputable def big : Int := 18446744073709551616
noncomputable def small (a : Int) : Bool := decide (-big < a) && decide (a < big)

noncomputable def binI (H : AH) (o : Bop) (a b : Int) : Option (PV × AH) := match o with
  | .add => some (.int (a + b), H)
  | .sub => some (.int (a - b), H)
  | .mul => og (small a || small b) (some (.int (a * b), H))
  | .fdiv => og (!decide (b = 0) && decide (b.natAbs < 1073741824)) (some (.int (a.fdiv b), H))
  | .mod => og (!decide (b = 0) && decide (b.natAbs < 1073741824)) (some (.int (a.fmod b), H))
  | .shl => og (decide (0 ≤ b) && decide (b ≤ 1000000) && small a) (some (.int (a * 2 ^ b.toNat), H))
  | .shr => og (decide (0 ≤ b)) (some (.int (a.fdiv (2 ^ b.toNat)), H))
  | .band => some (.int (PySem.Builtin.bitAnd a b), H)
  | .bor => some (.int (PySem.Builtin.bitOr a b), H)
noncomputable def asI (v : PV) : Option Int := @PV.casesOn (fun _ => Option Int) v none (fun _ => none) (fun i => some i) (fun _ => none) (fun _ => none) (fun _ _ _ => none) (fun _ => none)
theorem asI_of {v : PV} {i : Int} : asI v = some i → v = .int i :=
  @PV.casesOn (fun v => asI v = some i → v = .int i) v nse (fun _ => nse) (fun _ h => congrArg PV.int (Option.some.inj h)) (fun _ => nse) (fun _ => nse) (fun _ _ _ => nse) (fun _ => nse)
noncomputable def mulL (H : AH) (x y : PV) : Option (PV × AH) := ol x fun l => oi y fun n => oL H l fun vs => o1 vs fun v =>
  og (decide (0 ≤ n) && decide (n ≤ 1000)) (some (.loc H.length, H ++ [.list (List.replicate n.toNat v)]))
noncomputable def addL (H : AH) (x y : PV) : Option (PV × AH) := oo (items H x) fun a => oo (items H y) fun b => og (decide (a.length + b.length ≤ 1000)) (some (.lst (a ++ b), H))
noncomputable def binO (H : AH) (o : Bop) (x y : PV) : Option (PV × AH) := match o with
  | .add => addL H x y
  | .mul => mulL H x y
  | _ => none
noncomputable def binop (H : AH) (o : Bop) (x y : PV) : Option (PV × AH) := oe (asI x) (binO H o x y) fun a => oe (asI y) (binO H o x y) fun b => binI H o a b

noncomputable def cmpI (o : Cop) (a b : Int) : Option Bool := match o with
  | .lt => some (decide (a < b))
  | .gt => some (decide (b < a))
  | .le => some (decide (a ≤ b))
  | .ge => some (decide (b ≤ a))
  | .eq => some (decide (a = b))
  | .ne => some (!decide (a = b))
  | .isin => none
noncomputable def neL (H : AH) (x y : PV) : Option Bool := oo (items H x) fun a => oo (items H y) fun b => oo (ints? a) fun a => oo (ints? b) fun b =>
  og (decide (a.length ≤ 1000 ∧ b.length ≤ 1000)) (some (!decide (a = b)))
noncomputable def asB (v : PV) : Option Bool := @PV.casesOn (fun _ => Option Bool) v none (fun i => some i) (fun _ => none) (fun _ => none) (fun _ => none) (fun _ _ _ => none) (fun _ => none)
theorem asB_of {v : PV} {i : Bool} : asB v = some i → v = .bool i :=
  @PV.casesOn (fun v => asB v = some i → v = .bool i) v nse (fun _ h => congrArg PV.bool (Option.some.inj h)) (fun _ => nse) (fun _ => nse) (fun _ => nse) (fun _ _ _ => nse) (fun _ => nse)
noncomputable def neO (H : AH) (x y : PV) : Option Bool := oe (asB x) (neL H x y) fun a => oo (asB y) fun b => some (a != b)
noncomputable def inO (H : AH) (x y : PV) : Option Bool := oo (items H y) fun a => oe (asI x) (oo (pair? x) fun p => oo (pairs? a) fun a => some (decide (p ∈ a))) fun i => oo (ints? a) fun a => some (decide (i ∈ a))
noncomputable def cmpO (H : AH) (o : Cop) (x y : PV) : Option Bool := match o with
  | .ne => neO H x y
  | .isin => inO H x y
  | _ => none
noncomputable def cmpop (H : AH) (o : Cop) (x y : PV) : Option Bool := oe (asI x) (cmpO H o x y) fun a => oe (asI y) (cmpO H o x y) fun b => cmpI o a b

noncomputable def getF (k : Nat) : List (Nat × PV) → Option PV
  | [] => none
  | (j, v) :: r => if j = k then some v else getF k r
noncomputable def putF (k : Nat) (v : PV) : List (Nat × PV) → List (Nat × PV)
  | [] => [(k, v)]
  | (j, u) :: r => if j = k then (j, v) :: r else (j, u) :: putF k v r

noncomputable def vGetAttr (H : AH) (v : PV) (k : Nat) : Option PV :=
  match v with
  | .loc l => match H[l]? with
    | some (.inst _ fs) => getF k fs
    | _ => none
  | _ => none
noncomputable def vSetAttr (H : AH) (v : PV) (k : Nat) (x : PV) : Option AH :=
  match v with
  | .loc l => match H[l]? with
    | some (.inst c fs) => if fs.length < 100 then some (H.set l (.inst c (putF k x fs))) else none
    | _ => none
  | _ => none
noncomputable def vGetItem (H : AH) (v i : PV) : Option PV :=
  match i with
  | .int i => match unpk H v with
    | some vs => if 0 ≤ i ∧ i < 1000000 then vs[i.toNat]? else none
    | none => none
  | _ => none
noncomputable def vSetItem (H : AH) (v i x : PV) : Option AH :=
  match v, i with
  | .loc l, .int i => match H[l]? with
    | some (.list vs) => if 0 ≤ i ∧ i < 1000000 ∧ i.toNat < vs.length then some (H.set l (.list (vs.set i.toNat x))) else none
    | _ => none
  | _, _ => none

noncomputable def okRng (a b c : Int) : Bool := decide (-100000 ≤ a) && decide (a ≤ 100000) && decide (-100000 ≤ b) && decide (b ≤ 100000) && (decide (c = 1) || decide (c = -1))

noncomputable abbrev CallF := Nat → List PV → AH → Option (PV × AH)

noncomputable def callB (cf : CallF) (inits : List Nat) (f : Fn) (vs : List PV) (H : AH) : Option (PV × AH) := match f with
  | .abs => o1 vs fun v => oi v fun a => some (.int (if a < 0 then -a else a), H)
  | .min2 => oc vs fun u r => o1 r fun v => oi u fun a => oi v fun b => some (.int (if b < a then b else a), H)
  | .len => o1 vs fun v => oo (items H v) fun vs => og (decide (vs.length ≤ 1000)) (some (.int vs.length, H))
  | .sum => o1 vs fun v => oo (items H v) fun vs => oo (ints? vs) fun is => some (.int is.sum, H)
  | .range1 => o1 vs fun v => oi v fun b => og (okRng 0 b 1) (some (.rng 0 b 1, H))
  | .range2 => oc vs fun u r => o1 r fun v => oi u fun a => oi v fun b => og (okRng a b 1) (some (.rng a b 1, H))
  | .range3 => oc vs fun t r => oc r fun u r => o1 r fun v => oi t fun a => oi u fun b => oi v fun c => og (okRng a b c) (some (.rng a b c, H))
  | .user f => cf f vs H
  | .cls c => oo inits[c]? fun f => ob (cf f (.loc H.length :: vs) (H ++ [.inst c []])) fun r H' => on r (some (.loc H.length, H'))

noncomputable def rngList (a c : Int) : Nat → List PV
  | 0 => []
  | n + 1 => .int a :: rngList (a + c) c n
noncomputable def rngSize (a b c : Int) : Nat := if c = 1 then (b - a).toNat else (a - b).toNat
noncomputable def source (H : AH) : PV → Option (List PV)
  | .rng a b c => if okRng a b c then some (rngList a c (rngSize a b c)) else none
  | .tup vs => some vs
  | v => items H v
noncomputable def stays (v : PV) (vs : List PV) (H : AH) : Bool := match v with
  | .loc l => @decide (H[l]? = some (.list vs)) (Classical.propDecidable _)
  | _ => true

noncomputable def setAll : List Nat → List PV → Vars → Option Vars
  | [], vs, ρ => (match vs with | [] => some ρ | _ :: _ => none)
  | i :: is, vs, ρ => oc vs fun v vs => og (decide (i < ρ.length)) (setAll is vs (ρ.set i (some v)))
noncomputable def ot {β : Type} (v : PV) (k : List PV → Option β) : Option β := @PV.casesOn (fun _ => Option β) v none (fun _ => none) (fun _ => none) k (fun _ => none) (fun _ _ _ => none) (fun _ => none)
theorem ot_el {β : Type} {C : Prop} {y : β} {v : PV} {k : List PV → Option β} (h : ot v k = some y) (f : ∀ i, v = .tup i → k i = some y → C) : C :=
  @PV.casesOn (fun v' => v = v' → ot v' k = some y → C) v (fun _ => nse) (fun _ _ => nse) (fun _ _ => nse) f (fun _ _ => nse) (fun _ _ _ _ => nse) (fun _ _ => nse) rfl h
theorem setAll_len : ∀ {ts : List Nat} {vs : List PV} {ρ ρ' : Vars}, setAll ts vs ρ = some ρ' → vs.length = ts.length
  | [], [], _, _, _ => rfl
  | [], _ :: _, _, _, h => nse h
  | i :: is, vs, _, _, h => oc_el h fun v r e h => og_el h fun _ h => e ▸ congrArg Nat.succ (setAll_len h)
noncomputable def bindT (ts : List Nat) (v : PV) (ρ : Vars) : Option Vars := match ts with
  | [] => ot v fun vs => setAll [] vs ρ
  | i :: r => (match r with
    | [] => og (decide (i < ρ.length)) (some (ρ.set i (some v)))
    | j :: r => ot v fun vs => setAll (i :: j :: r) vs ρ)

noncomputable def compGo (l : Nat) (chk : AH → Bool) (bnd : PV → Option Vars) (test : Vars → AH → Option (Bool × AH)) (elt : Vars → AH → Option (PV × AH)) : List PV → AH → Option AH
  | [], H => og (chk H) (some H)
  | v :: vs, H => og (chk H) (oo (bnd v) fun ρ => ob (test ρ H) fun t H1 => match t with
    | false => compGo l chk bnd test elt vs H1
    | true => ob (elt ρ H1) fun x H2 => oL H2 l fun acc => og (decide (acc.length ≤ 1000)) (compGo l chk bnd test elt vs (H2.set l (.list (acc ++ [x])))))

noncomputable def vTrue (r : Option (PV × AH)) : Option (Bool × AH) := ob r fun v H => oo (truthy v) fun b => some (b, H)

variable (cf : CallF) (inits : List Nat) (globs : List PV)
mutual
noncomputable def evE (ρ : Vars) : Ex → AH → Option (PV × AH)
  | .const v, H => some (v, H)
  | .glob g, H => oo globs[g]? fun v => some (v, H)
  | .var i, H => oo ρ[i]? fun o => oo o fun v => some (v, H)
  | .bin o a b, H => ob (evE ρ a H) fun x H1 => ob (evE ρ b H1) fun y H2 => binop H2 o x y
  | .neg a, H => ob (evE ρ a H) fun x H1 => oi x fun i => some (.int (-i), H1)
  | .inv a, H => ob (evE ρ a H) fun x H1 => oi x fun i => some (.int (PySem.Builtin.bitNot i), H1)
  | .not a, H => ob (vTrue (evE ρ a H)) fun b H1 => some (.bool (!b), H1)
  | .and es, H => evAnd ρ es H
  | .or es, H => evOr ρ es H
  | .cmp o a b, H => ob (evE ρ a H) fun x H1 => ob (evE ρ b H1) fun y H2 => oo (cmpop H2 o x y) fun r => some (.bool r, H2)
  | .cmp2 o1 o2 a b c, H => ob (evE ρ a H) fun x H1 => ob (evE ρ b H1) fun y H2 => oo (cmpop H2 o1 x y) fun r => match r with
    | false => some (.bool false, H2)
    | true => ob (evE ρ c H2) fun z H3 => oo (cmpop H3 o2 y z) fun r => some (.bool r, H3)
  | .ite c a b, H => ob (vTrue (evE ρ c H)) fun t H1 => match t with
    | true => evE ρ a H1
    | false => evE ρ b H1
  | .attr a k, H => ob (evE ρ a H) fun x H1 => oo (vGetAttr H1 x k) fun v => some (v, H1)
  | .item a i, H => ob (evE ρ a H) fun x H1 => ob (evE ρ i H1) fun y H2 => oo (vGetItem H2 x y) fun v => some (v, H2)
  | .sliceFrom a lo, H => ob (evE ρ a H) fun x H1 => oo (items H1 x) fun vs => og (decide (0 ≤ lo ∧ vs.length ≤ 1000)) (some (.lst (vs.drop lo.toNat), H1))
  | .call f es, H => ob (evEs ρ es H) fun vs H1 => callB cf inits f vs H1
  | .append a b, H => ob (evE ρ a H) fun x H1 => ol x fun l => oL H1 l fun _ => ob (evE ρ b H1) fun y H2 => oL H2 l fun vs => og (decide (vs.length ≤ 1000)) (some (.none, H2.set l (.list (vs ++ [y]))))
  | .count a b, H => ob (evE ρ a H) fun x H1 => oo (items H1 x) fun _ => ob (evE ρ b H1) fun y H2 => oi y fun k => oo (items H2 x) fun vs => oo (ints? vs) fun is => og (decide (is.length ≤ 1000)) (some (.int (is.count k), H2))
  | .list es, H => ob (evEs ρ es H) fun vs H1 => og (decide (vs.length ≤ 1000)) (some (.loc H1.length, H1 ++ [.list vs]))
  | .tuple es, H => ob (evEs ρ es H) fun vs H1 => og (decide (vs.length ≤ 1000)) (some (.tup vs, H1))
  | .comp nt caps elt iter conds, H => ob (evE ρ iter H) fun x H1 => oo (source H1 x) fun vs => og (decide (vs.length ≤ 1000)) (oo
      (compGo H1.length (stays x vs) (fun v => bindT (List.range nt) v (List.replicate nt none ++ caps.map fun i => (ρ[i]?).join))
        (fun ρ' H' => evTests ρ' conds H') (fun ρ' H' => evE ρ' elt H') vs (H1 ++ [.list []])) fun H2 => oL H2 H1.length fun xs => some (.lst xs, H2.set H1.length .dead))
noncomputable def evEs (ρ : Vars) : Exs → AH → Option (List PV × AH)
  | .nil, H => some ([], H)
  | .cons e es, H => ob (evE ρ e H) fun x H1 => ob (evEs ρ es H1) fun xs H2 => some (x :: xs, H2)
noncomputable def evAnd (ρ : Vars) : Exs → AH → Option (PV × AH)
  | .nil, _ => none
  | .cons e es, H => ob (evE ρ e H) fun x H1 => match es with
    | .nil => some (x, H1)
    | .cons _ _ => oo (truthy x) fun b => match b with
      | false => some (x, H1)
      | true => evAnd ρ es H1
noncomputable def evOr (ρ : Vars) : Exs → AH → Option (PV × AH)
  | .nil, _ => none
  | .cons e es, H => ob (evE ρ e H) fun x H1 => match es with
    | .nil => some (x, H1)
    | .cons _ _ => oo (truthy x) fun b => match b with
      | true => some (x, H1)
      | false => evOr ρ es H1
noncomputable def evTests (ρ : Vars) : Exs → AH → Option (Bool × AH)
  | .nil, H => some (true, H)
  | .cons e es, H => ob (vTrue (evE ρ e H)) fun b H1 => match b with
    | false => (match es with
      | .nil => some (false, H1)
      | .cons _ _ => none)
    | true => evTests ρ es H1
end

noncomputable abbrev Out := Option (Flw × Vars × AH)
noncomputable def oS (r : Out) (k : Vars → AH → Out) : Out := match r with
  | some (f, ρ, H) => (match f with
    | .next => k ρ H
    | .ret v => some (.ret v, ρ, H))
  | none => none
theorem oS_el {C : Prop} {r : Out} {k : Vars → AH → Out} {fl : Flw} {ρ' : Vars} {H' : AH} (h : oS r k = some (fl, ρ', H')) (f1 : ∀ v, fl = .ret v → r = some (.ret v, ρ', H') → C) (f2 : ∀ ρ H, r = some (.next, ρ, H) → k ρ H = some (fl, ρ', H') → C) : C := by
  cases r with
  | none => cases h
  | some p =>
    obtain ⟨f, ρ, H⟩ := p
    cases f with
    | next => exact f2 ρ H rfl h
    | ret v => cases h; exact f1 v rfl rfl

noncomputable def whileGo (c : Vars → AH → Option (Bool × AH)) (b : Vars → AH → Out) : Nat → Vars → AH → Out
  | 0, _, _ => none
  | n + 1, ρ, H => ob (c ρ H) fun t H1 => match t with
    | false => some (.next, ρ, H1)
    | true => oS (b ρ H1) fun ρ' H2 => whileGo c b n ρ' H2

noncomputable def forGo (chk : AH → Bool) (bnd : PV → Vars → Option Vars) (b : Vars → AH → Out) : List PV → Vars → AH → Out
  | [], ρ, H => og (chk H) (some (.next, ρ, H))
  | v :: vs, ρ, H => og (chk H) (oo (bnd v ρ) fun ρ1 => oS (b ρ1 H) fun ρ' H2 => forGo chk bnd b vs ρ' H2)

mutual
noncomputable def exS : St → Vars → AH → Out
  | .assign i e, ρ, H => ob (evE cf inits globs ρ e H) fun v H1 => og (decide (i < ρ.length)) (some (.next, ρ.set i (some v), H1))
  | .assignTup is e, ρ, H => ob (evE cf inits globs ρ e H) fun v H1 => oo (unpk H1 v) fun vs => og (decide (vs.length ≤ 1000)) (oo (setAll is vs ρ) fun ρ' => some (.next, ρ', H1))
  | .setAttr o k e, ρ, H => ob (evE cf inits globs ρ e H) fun v H1 => ob (evE cf inits globs ρ o H1) fun x H2 => oo (vSetAttr H2 x k v) fun H3 => some (.next, ρ, H3)
  | .setItem o i e, ρ, H => ob (evE cf inits globs ρ e H) fun v H1 => ob (evE cf inits globs ρ o H1) fun x H2 => ob (evE cf inits globs ρ i H2) fun y H3 => oo (vSetItem H3 x y v) fun H4 => some (.next, ρ, H4)
  | .aug i o e, ρ, H => oo ρ[i]? fun u => oo u fun u => oi u fun a => ob (evE cf inits globs ρ e H) fun v H1 => oi v fun b => ob (binI H1 o a b) fun w H2 => some (.next, ρ.set i (some w), H2)
  | .augItem a i o e, ρ, H => ob (evE cf inits globs ρ a H) fun x H1 => ob (evE cf inits globs ρ i H1) fun y H2 => oo (vGetItem H2 x y) fun u => oi u fun u => ob (evE cf inits globs ρ e H2) fun v H3 => oi v fun v =>
      ob (binI H3 o u v) fun z H4 => oo (vSetItem H4 x y z) fun H5 => some (.next, ρ, H5)
  | .expr e, ρ, H => ob (evE cf inits globs ρ e H) fun v H1 => on v (some (.next, ρ, H1))
  | .ite c t f, ρ, H => ob (vTrue (evE cf inits globs ρ c H)) fun b H1 => match b with
    | true => exSs t ρ H1
    | false => exSs f ρ H1
  | .while c b, ρ, H => whileGo (fun ρ H => vTrue (evE cf inits globs ρ c H)) (fun ρ H => exSs b ρ H) 200 ρ H
  | .for ts it b, ρ, H => ob (evE cf inits globs ρ it H) fun x H1 => oo (source H1 x) fun vs => og (decide (vs.length ≤ 1000)) (forGo (stays x vs) (bindT ts) (fun ρ H => exSs b ρ H) vs ρ H1)
  | .ret e, ρ, H => ob (evE cf inits globs ρ e H) fun v H1 => some (.ret v, ρ, H1)
  | .stop, _, _ => none
noncomputable def exSs : Sts → Vars → AH → Out
  | .nil, ρ, H => some (.next, ρ, H)
  | .cons s ss, ρ, H => oS (exS s ρ H) fun ρ' H1 => exSs ss ρ' H1
end

structure FnDef where
  nv : Nat
  np : Nat
  body : Sts

noncomputable def freeze (n : Nat) (v : PV) (H : AH) : PV × AH :=
  match v with
  | .loc l => if n ≤ l then match H[l]? with
      | some (.list vs) => (.lst vs, H.set l .dead)
      | _ => (v, H)
    else (v, H)
  | _ => (v, H)
noncomputable def rt (n : Nat) (r : Out) : Option (PV × AH) := match r with
  | some (f, _, H) => (match f with
    | .ret v => some (freeze n v H)
    | .next => some (.none, H))
  | none => none

theorem rt_el {C : Prop} {n : Nat} {r : Out} {v : PV} {H' : AH} (h : rt n r = some (v, H')) (f1 : ∀ u ρ H, r = some (.ret u, ρ, H) → freeze n u H = (v, H') → C) (f2 : ∀ ρ, r = some (.next, ρ, H') → v = .none → C) : C := by
  rcases r with _ | ⟨f, ρ, H⟩
  · exact nse h
  · cases f with
    | ret u => exact f1 u ρ H rfl (Option.some.inj h)
    | next => cases h; exact f2 ρ rfl rfl
noncomputable def runFn (d : FnDef) (args : List PV) (H : AH) : Option (PV × AH) :=
  og (decide (args.length = d.np)) (rt H.length (exSs cf inits globs d.body (args.map some ++ List.replicate (d.nv - d.np) none) H))

variable (fns : List FnDef)
noncomputable def callN : Nat → CallF
  | 0 => fun _ _ _ => none
  | d + 1 => fun f args H => oo fns[f]? fun fd => runFn (callN d) inits globs fd args H


open PySem (Str Scope NameKind Expr Stmt)
structure Nms where
  gn : List Str
  fn : List (Option Str)
  cn : List Str
  attrs : List Str

noncomputable def kG (sc : Scope) (x : Str) : Bool := sc.names.lookup x == some .globalImplicit && x != Str.ofString "__debug__"
noncomputable def opOf : Bop → PySem.Operator
  | .add => .Add
  | .sub => .Sub
  | .mul => .Mult
  | .fdiv => .FloorDiv
  | .mod => .Mod
  | .shl => .LShift
  | .shr => .RShift
  | .band => .BitAnd
  | .bor => .BitOr
noncomputable def ckOp (o : Bop) (op : PySem.Operator) : Bool := decide (op = opOf o)
noncomputable def copOf : Cop → PySem.CmpOp
  | .lt => .Lt
  | .gt => .Gt
  | .le => .LtE
  | .ge => .GtE
  | .eq => .Eq
  | .ne => .NotEq
  | .isin => .In
noncomputable def ckC (o : Cop) (op : PySem.CmpOp) : Bool := decide (op = copOf o)
noncomputable def ckF (N : Nms) : Fn → Str → Bool
  | .abs, x => x == Str.ofString "abs"
  | .min2, x => x == Str.ofString "min"
  | .len, x => x == Str.ofString "len"
  | .sum, x => x == Str.ofString "sum"
  | .range1, x => x == Str.ofString "range"
  | .range2, x => x == Str.ofString "range"
  | .range3, x => x == Str.ofString "range"
  | .user f, x => N.fn[f]? == some (some x)
  | .cls c, x => N.cn[c]? == some x
noncomputable def ckConst (v : PV) (c : PySem.Const) : Bool := match v with
  | .none => decide (c = .none)
  | .bool b => decide (c = .bool b)
  | .int i => decide (c = .int i)
  | _ => false
noncomputable def nameOf (e : Expr) : Option Str := @PySem.Expr.casesOn (fun _ => Option Str) e (fun _ _ _ => none) (fun _ _ _ => none) (fun _ _ _ _ => none) (fun _ _ _ => none) (fun _ _ _ _ => none) (fun _ _ _ _ => none) (fun _ _ _ => none) (fun _ _ _ => none) (fun _ _ _ _ => none) (fun _ _ _ _ => none) (fun _ _ _ _ _ => none) (fun _ _ _ _ => none) (fun _ _ => none) (fun _ _ => none) (fun _ _ => none) (fun _ _ _ _ => none) (fun _ _ _ _ => none) (fun _ _ _ _ => none) (fun _ _ => none) (fun _ _ _ => none) (fun _ _ _ => none) (fun _ _ _ => none) (fun _ _ => none) (fun x _ => some x) (fun _ _ => none) (fun _ _ _ => none) (fun _ _ _ _ => none)
noncomputable def namesOf : List Expr → Option (List Str)
  | [] => some []
  | e :: r => oo (nameOf e) fun x => oo (namesOf r) fun xs => some (x :: xs)
noncomputable def targets (e : Expr) : Option (List Str) := @PySem.Expr.casesOn (fun _ => Option (List Str)) e (fun _ _ _ => none) (fun _ _ _ => none) (fun _ _ _ _ => none) (fun _ _ _ => none) (fun _ _ _ _ => none) (fun _ _ _ _ => none) (fun _ _ _ => none) (fun _ _ _ => none) (fun _ _ _ _ => none) (fun _ _ _ _ => none) (fun _ _ _ _ _ => none) (fun _ _ _ _ => none) (fun _ _ => none) (fun _ _ => none) (fun _ _ => none) (fun _ _ _ _ => none) (fun _ _ _ _ => none) (fun _ _ _ _ => none) (fun _ _ => none) (fun _ _ _ => none) (fun _ _ _ => none) (fun _ _ _ => none) (fun _ _ => none) (fun x _ => some [x]) (fun _ _ => none) (fun es _ _ => oo (namesOf es) fun xs => og (decide (2 ≤ xs.length)) (some xs)) (fun _ _ _ _ => none)
@[elab_as_elim] theorem nameOf_el {P : Expr → Prop} {x : Str} (e : Expr) (h : nameOf e = some x) (k : ∀ p, P (.Name x p)) : P e := by
  cases e with
  | Name y p => exact Option.some.inj h ▸ k p
  | _ => exact nse h
@[elab_as_elim] theorem targets_el {P : Expr → Prop} {tn : List Str} (e : Expr) (h : targets e = some tn) (k1 : ∀ x p, tn = [x] → P (.Name x p)) (k2 : ∀ es n p, namesOf es = some tn → 2 ≤ tn.length → P (.Tuple es n p)) : P e := by
  cases e with
  | Name y p => exact k1 y p (Option.some.inj h).symm
  | Tuple es n p => exact oo_el h fun xs h1 h => og_el h fun h2 h => k2 es n p (Option.some.inj h ▸ h1) (Option.some.inj h ▸ of_decide_eq_true h2)
  | _ => exact nse h
noncomputable def relab (sc scope : Scope) : Scope :=
  { scope with names := scope.names.map fun (n, k) => if k == .free && sc.kind == .function && sc.names.lookup n == some .cell then (n, .cell) else (n, k) }
noncomputable def ckScope (sc scope : Scope) (tn : List Str) (cs : List Str) : Bool :=
  scope.kind == .function &&
  scope.names.all (fun y => y.2 != .cell && (y.2 != .local || scope.names.lookup y.1 == some .local) && (y.2 != .free || (sc.kind == .function && sc.names.lookup y.1 == some .cell))) &&
  tn.all (fun x => scope.names.lookup x == some .local) &&
  cs.all (fun x => scope.names.lookup x == some .free) &&
  (tn ++ cs).all (fun x => x != Str.ofString "__debug__")
noncomputable def capNames (vs : List Str) : List Nat → Option (List Str)
  | [] => some []
  | i :: r => match vs[i]? with
    | some x => (capNames vs r).map (x :: ·)
    | none => none
noncomputable def isCall (e : Expr) : Bool := Nat.beq e.ctorIdx 16
noncomputable def isStar (e : Expr) : Bool := Nat.beq e.ctorIdx 22
noncomputable def isComp (e : Expr) : Bool := Nat.ble 8 e.ctorIdx && Nat.ble e.ctorIdx 10
noncomputable def nodupS : List Str → Bool
  | [] => true
  | x :: r => !r.contains x && nodupS r

noncomputable def eC (e : Expr) (f : PySem.Const → Bool) : Bool := @PySem.Expr.casesOn (fun _ => Bool) e (fun _ _ _ => false) (fun _ _ _ => false) (fun _ _ _ _ => false) (fun _ _ _ => false) (fun _ _ _ _ => false) (fun _ _ _ _ => false) (fun _ _ _ => false) (fun _ _ _ => false) (fun _ _ _ _ => false) (fun _ _ _ _ => false) (fun _ _ _ _ _ => false) (fun _ _ _ _ => false) (fun _ _ => false) (fun _ _ => false) (fun _ _ => false) (fun _ _ _ _ => false) (fun _ _ _ _ => false) (fun _ _ _ _ => false) (fun _ _ => false) (fun c _ _ => f c) (fun _ _ _ => false) (fun _ _ _ => false) (fun _ _ => false) (fun _ _ => false) (fun _ _ => false) (fun _ _ _ => false) (fun _ _ _ _ => false)
@[elab_as_elim] theorem eC_el {P : Expr → Prop} {f : PySem.Const → Bool} (e : Expr) (h : eC e f = true) (k : ∀ c n p, f c = true → P (.Constant c n p)) : P e :=
  @PySem.Expr.casesOn (fun e => eC e f = true → P e) e (fun _ _ _ h => (bft h).elim) (fun _ _ _ h => (bft h).elim) (fun _ _ _ _ h => (bft h).elim) (fun _ _ _ h => (bft h).elim) (fun _ _ _ _ h => (bft h).elim) (fun _ _ _ _ h => (bft h).elim) (fun _ _ _ h => (bft h).elim) (fun _ _ _ h => (bft h).elim) (fun _ _ _ _ h => (bft h).elim) (fun _ _ _ _ h => (bft h).elim) (fun _ _ _ _ _ h => (bft h).elim) (fun _ _ _ _ h => (bft h).elim) (fun _ _ h => (bft h).elim) (fun _ _ h => (bft h).elim) (fun _ _ h => (bft h).elim) (fun _ _ _ _ h => (bft h).elim) (fun _ _ _ _ h => (bft h).elim) (fun _ _ _ _ h => (bft h).elim) (fun _ _ h => (bft h).elim) k (fun _ _ _ h => (bft h).elim) (fun _ _ _ h => (bft h).elim) (fun _ _ h => (bft h).elim) (fun _ _ h => (bft h).elim) (fun _ _ h => (bft h).elim) (fun _ _ _ h => (bft h).elim) (fun _ _ _ _ h => (bft h).elim) h
noncomputable def eN (e : Expr) (f : Str → PySem.Pos → Bool) : Bool := @PySem.Expr.casesOn (fun _ => Bool) e (fun _ _ _ => false) (fun _ _ _ => false) (fun _ _ _ _ => false) (fun _ _ _ => false) (fun _ _ _ _ => false) (fun _ _ _ _ => false) (fun _ _ _ => false) (fun _ _ _ => false) (fun _ _ _ _ => false) (fun _ _ _ _ => false) (fun _ _ _ _ _ => false) (fun _ _ _ _ => false) (fun _ _ => false) (fun _ _ => false) (fun _ _ => false) (fun _ _ _ _ => false) (fun _ _ _ _ => false) (fun _ _ _ _ => false) (fun _ _ => false) (fun _ _ _ => false) (fun _ _ _ => false) (fun _ _ _ => false) (fun _ _ => false) (fun x p => f x p) (fun _ _ => false) (fun _ _ _ => false) (fun _ _ _ _ => false)
@[elab_as_elim] theorem eN_el {P : Expr → Prop} {f : Str → PySem.Pos → Bool} (e : Expr) (h : eN e f = true) (k : ∀ x p, f x p = true → P (.Name x p)) : P e :=
  @PySem.Expr.casesOn (fun e => eN e f = true → P e) e (fun _ _ _ h => (bft h).elim) (fun _ _ _ h => (bft h).elim) (fun _ _ _ _ h => (bft h).elim) (fun _ _ _ h => (bft h).elim) (fun _ _ _ _ h => (bft h).elim) (fun _ _ _ _ h => (bft h).elim) (fun _ _ _ h => (bft h).elim) (fun _ _ _ h => (bft h).elim) (fun _ _ _ _ h => (bft h).elim) (fun _ _ _ _ h => (bft h).elim) (fun _ _ _ _ _ h => (bft h).elim) (fun _ _ _ _ h => (bft h).elim) (fun _ _ h => (bft h).elim) (fun _ _ h => (bft h).elim) (fun _ _ h => (bft h).elim) (fun _ _ _ _ h => (bft h).elim) (fun _ _ _ _ h => (bft h).elim) (fun _ _ _ _ h => (bft h).elim) (fun _ _ h => (bft h).elim) (fun _ _ _ h => (bft h).elim) (fun _ _ _ h => (bft h).elim) (fun _ _ _ h => (bft h).elim) (fun _ _ h => (bft h).elim) k (fun _ _ h => (bft h).elim) (fun _ _ _ h => (bft h).elim) (fun _ _ _ _ h => (bft h).elim) h
noncomputable def eB (e : Expr) (f : Expr → PySem.Operator → Expr → Bool) : Bool := @PySem.Expr.casesOn (fun _ => Bool) e (fun _ _ _ => false) (fun _ _ _ => false) (fun l o r _ => f l o r) (fun _ _ _ => false) (fun _ _ _ _ => false) (fun _ _ _ _ => false) (fun _ _ _ => false) (fun _ _ _ => false) (fun _ _ _ _ => false) (fun _ _ _ _ => false) (fun _ _ _ _ _ => false) (fun _ _ _ _ => false) (fun _ _ => false) (fun _ _ => false) (fun _ _ => false) (fun _ _ _ _ => false) (fun _ _ _ _ => false) (fun _ _ _ _ => false) (fun _ _ => false) (fun _ _ _ => false) (fun _ _ _ => false) (fun _ _ _ => false) (fun _ _ => false) (fun _ _ => false) (fun _ _ => false) (fun _ _ _ => false) (fun _ _ _ _ => false)
@[elab_as_elim] theorem eB_el {P : Expr → Prop} {f : Expr → PySem.Operator → Expr → Bool} (e : Expr) (h : eB e f = true) (k : ∀ l o r p, f l o r = true → P (.BinOp l o r p)) : P e :=
  @PySem.Expr.casesOn (fun e => eB e f = true → P e) e (fun _ _ _ h => (bft h).elim) (fun _ _ _ h => (bft h).elim) k (fun _ _ _ h => (bft h).elim) (fun _ _ _ _ h => (bft h).elim) (fun _ _ _ _ h => (bft h).elim) (fun _ _ _ h => (bft h).elim) (fun _ _ _ h => (bft h).elim) (fun _ _ _ _ h => (bft h).elim) (fun _ _ _ _ h => (bft h).elim) (fun _ _ _ _ _ h => (bft h).elim) (fun _ _ _ _ h => (bft h).elim) (fun _ _ h => (bft h).elim) (fun _ _ h => (bft h).elim) (fun _ _ h => (bft h).elim) (fun _ _ _ _ h => (bft h).elim) (fun _ _ _ _ h => (bft h).elim) (fun _ _ _ _ h => (bft h).elim) (fun _ _ h => (bft h).elim) (fun _ _ _ h => (bft h).elim) (fun _ _ _ h => (bft h).elim) (fun _ _ _ h => (bft h).elim) (fun _ _ h => (bft h).elim) (fun _ _ h => (bft h).elim) (fun _ _ h => (bft h).elim) (fun _ _ _ h => (bft h).elim) (fun _ _ _ _ h => (bft h).elim) h
noncomputable def eU (e : Expr) (f : PySem.UnaryOp → Expr → Bool) : Bool := @PySem.Expr.casesOn (fun _ => Bool) e (fun _ _ _ => false) (fun _ _ _ => false) (fun _ _ _ _ => false) (fun o x _ => f o x) (fun _ _ _ _ => false) (fun _ _ _ _ => false) (fun _ _ _ => false) (fun _ _ _ => false) (fun _ _ _ _ => false) (fun _ _ _ _ => false) (fun _ _ _ _ _ => false) (fun _ _ _ _ => false) (fun _ _ => false) (fun _ _ => false) (fun _ _ => false) (fun _ _ _ _ => false) (fun _ _ _ _ => false) (fun _ _ _ _ => false) (fun _ _ => false) (fun _ _ _ => false) (fun _ _ _ => false) (fun _ _ _ => false) (fun _ _ => false) (fun _ _ => false) (fun _ _ => false) (fun _ _ _ => false) (fun _ _ _ _ => false)
@[elab_as_elim] theorem eU_el {P : Expr → Prop} {f : PySem.UnaryOp → Expr → Bool} (e : Expr) (h : eU e f = true) (k : ∀ o x p, f o x = true → P (.UnaryOp o x p)) : P e :=
  @PySem.Expr.casesOn (fun e => eU e f = true → P e) e (fun _ _ _ h => (bft h).elim) (fun _ _ _ h => (bft h).elim) (fun _ _ _ _ h => (bft h).elim) k (fun _ _ _ _ h => (bft h).elim) (fun _ _ _ _ h => (bft h).elim) (fun _ _ _ h => (bft h).elim) (fun _ _ _ h => (bft h).elim) (fun _ _ _ _ h => (bft h).elim) (fun _ _ _ _ h => (bft h).elim) (fun _ _ _ _ _ h => (bft h).elim) (fun _ _ _ _ h => (bft h).elim) (fun _ _ h => (bft h).elim) (fun _ _ h => (bft h).elim) (fun _ _ h => (bft h).elim) (fun _ _ _ _ h => (bft h).elim) (fun _ _ _ _ h => (bft h).elim) (fun _ _ _ _ h => (bft h).elim) (fun _ _ h => (bft h).elim) (fun _ _ _ h => (bft h).elim) (fun _ _ _ h => (bft h).elim) (fun _ _ _ h => (bft h).elim) (fun _ _ h => (bft h).elim) (fun _ _ h => (bft h).elim) (fun _ _ h => (bft h).elim) (fun _ _ _ h => (bft h).elim) (fun _ _ _ _ h => (bft h).elim) h
noncomputable def eBo (e : Expr) (f : PySem.BoolOp → List Expr → Bool) : Bool := @PySem.Expr.casesOn (fun _ => Bool) e (fun o xs _ => f o xs) (fun _ _ _ => false) (fun _ _ _ _ => false) (fun _ _ _ => false) (fun _ _ _ _ => false) (fun _ _ _ _ => false) (fun _ _ _ => false) (fun _ _ _ => false) (fun _ _ _ _ => false) (fun _ _ _ _ => false) (fun _ _ _ _ _ => false) (fun _ _ _ _ => false) (fun _ _ => false) (fun _ _ => false) (fun _ _ => false) (fun _ _ _ _ => false) (fun _ _ _ _ => false) (fun _ _ _ _ => false) (fun _ _ => false) (fun _ _ _ => false) (fun _ _ _ => false) (fun _ _ _ => false) (fun _ _ => false) (fun _ _ => false) (fun _ _ => false) (fun _ _ _ => false) (fun _ _ _ _ => false)
@[elab_as_elim] theorem eBo_el {P : Expr → Prop} {f : PySem.BoolOp → List Expr → Bool} (e : Expr) (h : eBo e f = true) (k : ∀ o xs p, f o xs = true → P (.BoolOp o xs p)) : P e :=
  @PySem.Expr.casesOn (fun e => eBo e f = true → P e) e k (fun _ _ _ h => (bft h).elim) (fun _ _ _ _ h => (bft h).elim) (fun _ _ _ h => (bft h).elim) (fun _ _ _ _ h => (bft h).elim) (fun _ _ _ _ h => (bft h).elim) (fun _ _ _ h => (bft h).elim) (fun _ _ _ h => (bft h).elim) (fun _ _ _ _ h => (bft h).elim) (fun _ _ _ _ h => (bft h).elim) (fun _ _ _ _ _ h => (bft h).elim) (fun _ _ _ _ h => (bft h).elim) (fun _ _ h => (bft h).elim) (fun _ _ h => (bft h).elim) (fun _ _ h => (bft h).elim) (fun _ _ _ _ h => (bft h).elim) (fun _ _ _ _ h => (bft h).elim) (fun _ _ _ _ h => (bft h).elim) (fun _ _ h => (bft h).elim) (fun _ _ _ h => (bft h).elim) (fun _ _ _ h => (bft h).elim) (fun _ _ _ h => (bft h).elim) (fun _ _ h => (bft h).elim) (fun _ _ h => (bft h).elim) (fun _ _ h => (bft h).elim) (fun _ _ _ h => (bft h).elim) (fun _ _ _ _ h => (bft h).elim) h
noncomputable def eCm (e : Expr) (f : Expr → List PySem.CmpOp → List Expr → Bool) : Bool := @PySem.Expr.casesOn (fun _ => Bool) e (fun _ _ _ => false) (fun _ _ _ => false) (fun _ _ _ _ => false) (fun _ _ _ => false) (fun _ _ _ _ => false) (fun _ _ _ _ => false) (fun _ _ _ => false) (fun _ _ _ => false) (fun _ _ _ _ => false) (fun _ _ _ _ => false) (fun _ _ _ _ _ => false) (fun _ _ _ _ => false) (fun _ _ => false) (fun _ _ => false) (fun _ _ => false) (fun l os rs _ => f l os rs) (fun _ _ _ _ => false) (fun _ _ _ _ => false) (fun _ _ => false) (fun _ _ _ => false) (fun _ _ _ => false) (fun _ _ _ => false) (fun _ _ => false) (fun _ _ => false) (fun _ _ => false) (fun _ _ _ => false) (fun _ _ _ _ => false)
@[elab_as_elim] theorem eCm_el {P : Expr → Prop} {f : Expr → List PySem.CmpOp → List Expr → Bool} (e : Expr) (h : eCm e f = true) (k : ∀ l os rs p, f l os rs = true → P (.Compare l os rs p)) : P e :=
  @PySem.Expr.casesOn (fun e => eCm e f = true → P e) e (fun _ _ _ h => (bft h).elim) (fun _ _ _ h => (bft h).elim) (fun _ _ _ _ h => (bft h).elim) (fun _ _ _ h => (bft h).elim) (fun _ _ _ _ h => (bft h).elim) (fun _ _ _ _ h => (bft h).elim) (fun _ _ _ h => (bft h).elim) (fun _ _ _ h => (bft h).elim) (fun _ _ _ _ h => (bft h).elim) (fun _ _ _ _ h => (bft h).elim) (fun _ _ _ _ _ h => (bft h).elim) (fun _ _ _ _ h => (bft h).elim) (fun _ _ h => (bft h).elim) (fun _ _ h => (bft h).elim) (fun _ _ h => (bft h).elim) k (fun _ _ _ _ h => (bft h).elim) (fun _ _ _ _ h => (bft h).elim) (fun _ _ h => (bft h).elim) (fun _ _ _ h => (bft h).elim) (fun _ _ _ h => (bft h).elim) (fun _ _ _ h => (bft h).elim) (fun _ _ h => (bft h).elim) (fun _ _ h => (bft h).elim) (fun _ _ h => (bft h).elim) (fun _ _ _ h => (bft h).elim) (fun _ _ _ _ h => (bft h).elim) h
noncomputable def eIf (e : Expr) (f : Expr → Expr → Expr → Bool) : Bool := @PySem.Expr.casesOn (fun _ => Bool) e (fun _ _ _ => false) (fun _ _ _ => false) (fun _ _ _ _ => false) (fun _ _ _ => false) (fun _ _ _ _ => false) (fun t x y _ => f t x y) (fun _ _ _ => false) (fun _ _ _ => false) (fun _ _ _ _ => false) (fun _ _ _ _ => false) (fun _ _ _ _ _ => false) (fun _ _ _ _ => false) (fun _ _ => false) (fun _ _ => false) (fun _ _ => false) (fun _ _ _ _ => false) (fun _ _ _ _ => false) (fun _ _ _ _ => false) (fun _ _ => false) (fun _ _ _ => false) (fun _ _ _ => false) (fun _ _ _ => false) (fun _ _ => false) (fun _ _ => false) (fun _ _ => false) (fun _ _ _ => false) (fun _ _ _ _ => false)
@[elab_as_elim] theorem eIf_el {P : Expr → Prop} {f : Expr → Expr → Expr → Bool} (e : Expr) (h : eIf e f = true) (k : ∀ t x y p, f t x y = true → P (.IfExp t x y p)) : P e :=
  @PySem.Expr.casesOn (fun e => eIf e f = true → P e) e (fun _ _ _ h => (bft h).elim) (fun _ _ _ h => (bft h).elim) (fun _ _ _ _ h => (bft h).elim) (fun _ _ _ h => (bft h).elim) (fun _ _ _ _ h => (bft h).elim) k (fun _ _ _ h => (bft h).elim) (fun _ _ _ h => (bft h).elim) (fun _ _ _ _ h => (bft h).elim) (fun _ _ _ _ h => (bft h).elim) (fun _ _ _ _ _ h => (bft h).elim) (fun _ _ _ _ h => (bft h).elim) (fun _ _ h => (bft h).elim) (fun _ _ h => (bft h).elim) (fun _ _ h => (bft h).elim) (fun _ _ _ _ h => (bft h).elim) (fun _ _ _ _ h => (bft h).elim) (fun _ _ _ _ h => (bft h).elim) (fun _ _ h => (bft h).elim) (fun _ _ _ h => (bft h).elim) (fun _ _ _ h => (bft h).elim) (fun _ _ _ h => (bft h).elim) (fun _ _ h => (bft h).elim) (fun _ _ h => (bft h).elim) (fun _ _ h => (bft h).elim) (fun _ _ _ h => (bft h).elim) (fun _ _ _ _ h => (bft h).elim) h
noncomputable def eA (e : Expr) (f : Expr → Str → PySem.Pos → Bool) : Bool := @PySem.Expr.casesOn (fun _ => Bool) e (fun _ _ _ => false) (fun _ _ _ => false) (fun _ _ _ _ => false) (fun _ _ _ => false) (fun _ _ _ _ => false) (fun _ _ _ _ => false) (fun _ _ _ => false) (fun _ _ _ => false) (fun _ _ _ _ => false) (fun _ _ _ _ => false) (fun _ _ _ _ _ => false) (fun _ _ _ _ => false) (fun _ _ => false) (fun _ _ => false) (fun _ _ => false) (fun _ _ _ _ => false) (fun _ _ _ _ => false) (fun _ _ _ _ => false) (fun _ _ => false) (fun _ _ _ => false) (fun x n p => f x n p) (fun _ _ _ => false) (fun _ _ => false) (fun _ _ => false) (fun _ _ => false) (fun _ _ _ => false) (fun _ _ _ _ => false)
@[elab_as_elim] theorem eA_el {P : Expr → Prop} {f : Expr → Str → PySem.Pos → Bool} (e : Expr) (h : eA e f = true) (k : ∀ x n p, f x n p = true → P (.Attribute x n p)) : P e :=
  @PySem.Expr.casesOn (fun e => eA e f = true → P e) e (fun _ _ _ h => (bft h).elim) (fun _ _ _ h => (bft h).elim) (fun _ _ _ _ h => (bft h).elim) (fun _ _ _ h => (bft h).elim) (fun _ _ _ _ h => (bft h).elim) (fun _ _ _ _ h => (bft h).elim) (fun _ _ _ h => (bft h).elim) (fun _ _ _ h => (bft h).elim) (fun _ _ _ _ h => (bft h).elim) (fun _ _ _ _ h => (bft h).elim) (fun _ _ _ _ _ h => (bft h).elim) (fun _ _ _ _ h => (bft h).elim) (fun _ _ h => (bft h).elim) (fun _ _ h => (bft h).elim) (fun _ _ h => (bft h).elim) (fun _ _ _ _ h => (bft h).elim) (fun _ _ _ _ h => (bft h).elim) (fun _ _ _ _ h => (bft h).elim) (fun _ _ h => (bft h).elim) (fun _ _ _ h => (bft h).elim) k (fun _ _ _ h => (bft h).elim) (fun _ _ h => (bft h).elim) (fun _ _ h => (bft h).elim) (fun _ _ h => (bft h).elim) (fun _ _ _ h => (bft h).elim) (fun _ _ _ _ h => (bft h).elim) h
noncomputable def eS (e : Expr) (f : Expr → Expr → Bool) : Bool := @PySem.Expr.casesOn (fun _ => Bool) e (fun _ _ _ => false) (fun _ _ _ => false) (fun _ _ _ _ => false) (fun _ _ _ => false) (fun _ _ _ _ => false) (fun _ _ _ _ => false) (fun _ _ _ => false) (fun _ _ _ => false) (fun _ _ _ _ => false) (fun _ _ _ _ => false) (fun _ _ _ _ _ => false) (fun _ _ _ _ => false) (fun _ _ => false) (fun _ _ => false) (fun _ _ => false) (fun _ _ _ _ => false) (fun _ _ _ _ => false) (fun _ _ _ _ => false) (fun _ _ => false) (fun _ _ _ => false) (fun _ _ _ => false) (fun x i _ => f x i) (fun _ _ => false) (fun _ _ => false) (fun _ _ => false) (fun _ _ _ => false) (fun _ _ _ _ => false)
@[elab_as_elim] theorem eS_el {P : Expr → Prop} {f : Expr → Expr → Bool} (e : Expr) (h : eS e f = true) (k : ∀ x i p, f x i = true → P (.Subscript x i p)) : P e :=
  @PySem.Expr.casesOn (fun e => eS e f = true → P e) e (fun _ _ _ h => (bft h).elim) (fun _ _ _ h => (bft h).elim) (fun _ _ _ _ h => (bft h).elim) (fun _ _ _ h => (bft h).elim) (fun _ _ _ _ h => (bft h).elim) (fun _ _ _ _ h => (bft h).elim) (fun _ _ _ h => (bft h).elim) (fun _ _ _ h => (bft h).elim) (fun _ _ _ _ h => (bft h).elim) (fun _ _ _ _ h => (bft h).elim) (fun _ _ _ _ _ h => (bft h).elim) (fun _ _ _ _ h => (bft h).elim) (fun _ _ h => (bft h).elim) (fun _ _ h => (bft h).elim) (fun _ _ h => (bft h).elim) (fun _ _ _ _ h => (bft h).elim) (fun _ _ _ _ h => (bft h).elim) (fun _ _ _ _ h => (bft h).elim) (fun _ _ h => (bft h).elim) (fun _ _ _ h => (bft h).elim) (fun _ _ _ h => (bft h).elim) k (fun _ _ h => (bft h).elim) (fun _ _ h => (bft h).elim) (fun _ _ h => (bft h).elim) (fun _ _ _ h => (bft h).elim) (fun _ _ _ _ h => (bft h).elim) h
noncomputable def eSl (e : Expr) (f : Option Expr → Option Expr → Option Expr → Bool) : Bool := @PySem.Expr.casesOn (fun _ => Bool) e (fun _ _ _ => false) (fun _ _ _ => false) (fun _ _ _ _ => false) (fun _ _ _ => false) (fun _ _ _ _ => false) (fun _ _ _ _ => false) (fun _ _ _ => false) (fun _ _ _ => false) (fun _ _ _ _ => false) (fun _ _ _ _ => false) (fun _ _ _ _ _ => false) (fun _ _ _ _ => false) (fun _ _ => false) (fun _ _ => false) (fun _ _ => false) (fun _ _ _ _ => false) (fun _ _ _ _ => false) (fun _ _ _ _ => false) (fun _ _ => false) (fun _ _ _ => false) (fun _ _ _ => false) (fun _ _ _ => false) (fun _ _ => false) (fun _ _ => false) (fun _ _ => false) (fun _ _ _ => false) (fun lo hi st _ => f lo hi st)
@[elab_as_elim] theorem eSl_el {P : Expr → Prop} {f : Option Expr → Option Expr → Option Expr → Bool} (e : Expr) (h : eSl e f = true) (k : ∀ lo hi st p, f lo hi st = true → P (.Slice lo hi st p)) : P e :=
  @PySem.Expr.casesOn (fun e => eSl e f = true → P e) e (fun _ _ _ h => (bft h).elim) (fun _ _ _ h => (bft h).elim) (fun _ _ _ _ h => (bft h).elim) (fun _ _ _ h => (bft h).elim) (fun _ _ _ _ h => (bft h).elim) (fun _ _ _ _ h => (bft h).elim) (fun _ _ _ h => (bft h).elim) (fun _ _ _ h => (bft h).elim) (fun _ _ _ _ h => (bft h).elim) (fun _ _ _ _ h => (bft h).elim) (fun _ _ _ _ _ h => (bft h).elim) (fun _ _ _ _ h => (bft h).elim) (fun _ _ h => (bft h).elim) (fun _ _ h => (bft h).elim) (fun _ _ h => (bft h).elim) (fun _ _ _ _ h => (bft h).elim) (fun _ _ _ _ h => (bft h).elim) (fun _ _ _ _ h => (bft h).elim) (fun _ _ h => (bft h).elim) (fun _ _ _ h => (bft h).elim) (fun _ _ _ h => (bft h).elim) (fun _ _ _ h => (bft h).elim) (fun _ _ h => (bft h).elim) (fun _ _ h => (bft h).elim) (fun _ _ h => (bft h).elim) (fun _ _ _ h => (bft h).elim) k h
noncomputable def eCa (e : Expr) (f : Expr → List Expr → List PySem.Keyword → PySem.Pos → Bool) : Bool := @PySem.Expr.casesOn (fun _ => Bool) e (fun _ _ _ => false) (fun _ _ _ => false) (fun _ _ _ _ => false) (fun _ _ _ => false) (fun _ _ _ _ => false) (fun _ _ _ _ => false) (fun _ _ _ => false) (fun _ _ _ => false) (fun _ _ _ _ => false) (fun _ _ _ _ => false) (fun _ _ _ _ _ => false) (fun _ _ _ _ => false) (fun _ _ => false) (fun _ _ => false) (fun _ _ => false) (fun _ _ _ _ => false) (fun f' xs ks p => f f' xs ks p) (fun _ _ _ _ => false) (fun _ _ => false) (fun _ _ _ => false) (fun _ _ _ => false) (fun _ _ _ => false) (fun _ _ => false) (fun _ _ => false) (fun _ _ => false) (fun _ _ _ => false) (fun _ _ _ _ => false)
@[elab_as_elim] theorem eCa_el {P : Expr → Prop} {f : Expr → List Expr → List PySem.Keyword → PySem.Pos → Bool} (e : Expr) (h : eCa e f = true) (k : ∀ f' xs ks p, f f' xs ks p = true → P (.Call f' xs ks p)) : P e :=
  @PySem.Expr.casesOn (fun e => eCa e f = true → P e) e (fun _ _ _ h => (bft h).elim) (fun _ _ _ h => (bft h).elim) (fun _ _ _ _ h => (bft h).elim) (fun _ _ _ h => (bft h).elim) (fun _ _ _ _ h => (bft h).elim) (fun _ _ _ _ h => (bft h).elim) (fun _ _ _ h => (bft h).elim) (fun _ _ _ h => (bft h).elim) (fun _ _ _ _ h => (bft h).elim) (fun _ _ _ _ h => (bft h).elim) (fun _ _ _ _ _ h => (bft h).elim) (fun _ _ _ _ h => (bft h).elim) (fun _ _ h => (bft h).elim) (fun _ _ h => (bft h).elim) (fun _ _ h => (bft h).elim) (fun _ _ _ _ h => (bft h).elim) k (fun _ _ _ _ h => (bft h).elim) (fun _ _ h => (bft h).elim) (fun _ _ _ h => (bft h).elim) (fun _ _ _ h => (bft h).elim) (fun _ _ _ h => (bft h).elim) (fun _ _ h => (bft h).elim) (fun _ _ h => (bft h).elim) (fun _ _ h => (bft h).elim) (fun _ _ _ h => (bft h).elim) (fun _ _ _ _ h => (bft h).elim) h
noncomputable def eL (e : Expr) (f : List Expr → Bool) : Bool := @PySem.Expr.casesOn (fun _ => Bool) e (fun _ _ _ => false) (fun _ _ _ => false) (fun _ _ _ _ => false) (fun _ _ _ => false) (fun _ _ _ _ => false) (fun _ _ _ _ => false) (fun _ _ _ => false) (fun _ _ _ => false) (fun _ _ _ _ => false) (fun _ _ _ _ => false) (fun _ _ _ _ _ => false) (fun _ _ _ _ => false) (fun _ _ => false) (fun _ _ => false) (fun _ _ => false) (fun _ _ _ _ => false) (fun _ _ _ _ => false) (fun _ _ _ _ => false) (fun _ _ => false) (fun _ _ _ => false) (fun _ _ _ => false) (fun _ _ _ => false) (fun _ _ => false) (fun _ _ => false) (fun xs _ => f xs) (fun _ _ _ => false) (fun _ _ _ _ => false)
@[elab_as_elim] theorem eL_el {P : Expr → Prop} {f : List Expr → Bool} (e : Expr) (h : eL e f = true) (k : ∀ xs p, f xs = true → P (.List xs p)) : P e :=
  @PySem.Expr.casesOn (fun e => eL e f = true → P e) e (fun _ _ _ h => (bft h).elim) (fun _ _ _ h => (bft h).elim) (fun _ _ _ _ h => (bft h).elim) (fun _ _ _ h => (bft h).elim) (fun _ _ _ _ h => (bft h).elim) (fun _ _ _ _ h => (bft h).elim) (fun _ _ _ h => (bft h).elim) (fun _ _ _ h => (bft h).elim) (fun _ _ _ _ h => (bft h).elim) (fun _ _ _ _ h => (bft h).elim) (fun _ _ _ _ _ h => (bft h).elim) (fun _ _ _ _ h => (bft h).elim) (fun _ _ h => (bft h).elim) (fun _ _ h => (bft h).elim) (fun _ _ h => (bft h).elim) (fun _ _ _ _ h => (bft h).elim) (fun _ _ _ _ h => (bft h).elim) (fun _ _ _ _ h => (bft h).elim) (fun _ _ h => (bft h).elim) (fun _ _ _ h => (bft h).elim) (fun _ _ _ h => (bft h).elim) (fun _ _ _ h => (bft h).elim) (fun _ _ h => (bft h).elim) (fun _ _ h => (bft h).elim) k (fun _ _ _ h => (bft h).elim) (fun _ _ _ _ h => (bft h).elim) h
noncomputable def eT (e : Expr) (f : List Expr → Bool) : Bool := @PySem.Expr.casesOn (fun _ => Bool) e (fun _ _ _ => false) (fun _ _ _ => false) (fun _ _ _ _ => false) (fun _ _ _ => false) (fun _ _ _ _ => false) (fun _ _ _ _ => false) (fun _ _ _ => false) (fun _ _ _ => false) (fun _ _ _ _ => false) (fun _ _ _ _ => false) (fun _ _ _ _ _ => false) (fun _ _ _ _ => false) (fun _ _ => false) (fun _ _ => false) (fun _ _ => false) (fun _ _ _ _ => false) (fun _ _ _ _ => false) (fun _ _ _ _ => false) (fun _ _ => false) (fun _ _ _ => false) (fun _ _ _ => false) (fun _ _ _ => false) (fun _ _ => false) (fun _ _ => false) (fun _ _ => false) (fun xs _ _ => f xs) (fun _ _ _ _ => false)
@[elab_as_elim] theorem eT_el {P : Expr → Prop} {f : List Expr → Bool} (e : Expr) (h : eT e f = true) (k : ∀ xs n p, f xs = true → P (.Tuple xs n p)) : P e :=
  @PySem.Expr.casesOn (fun e => eT e f = true → P e) e (fun _ _ _ h => (bft h).elim) (fun _ _ _ h => (bft h).elim) (fun _ _ _ _ h => (bft h).elim) (fun _ _ _ h => (bft h).elim) (fun _ _ _ _ h => (bft h).elim) (fun _ _ _ _ h => (bft h).elim) (fun _ _ _ h => (bft h).elim) (fun _ _ _ h => (bft h).elim) (fun _ _ _ _ h => (bft h).elim) (fun _ _ _ _ h => (bft h).elim) (fun _ _ _ _ _ h => (bft h).elim) (fun _ _ _ _ h => (bft h).elim) (fun _ _ h => (bft h).elim) (fun _ _ h => (bft h).elim) (fun _ _ h => (bft h).elim) (fun _ _ _ _ h => (bft h).elim) (fun _ _ _ _ h => (bft h).elim) (fun _ _ _ _ h => (bft h).elim) (fun _ _ h => (bft h).elim) (fun _ _ _ h => (bft h).elim) (fun _ _ _ h => (bft h).elim) (fun _ _ _ h => (bft h).elim) (fun _ _ h => (bft h).elim) (fun _ _ h => (bft h).elim) (fun _ _ h => (bft h).elim) k (fun _ _ _ _ h => (bft h).elim) h
noncomputable def eLc (e : Expr) (f : Expr → List PySem.Comprehension → Scope → PySem.Pos → Bool) : Bool := @PySem.Expr.casesOn (fun _ => Bool) e (fun _ _ _ => false) (fun _ _ _ => false) (fun _ _ _ _ => false) (fun _ _ _ => false) (fun _ _ _ _ => false) (fun _ _ _ _ => false) (fun _ _ _ => false) (fun _ _ _ => false) (fun x gs sc p => f x gs sc p) (fun _ _ _ _ => false) (fun _ _ _ _ _ => false) (fun _ _ _ _ => false) (fun _ _ => false) (fun _ _ => false) (fun _ _ => false) (fun _ _ _ _ => false) (fun _ _ _ _ => false) (fun _ _ _ _ => false) (fun _ _ => false) (fun _ _ _ => false) (fun _ _ _ => false) (fun _ _ _ => false) (fun _ _ => false) (fun _ _ => false) (fun _ _ => false) (fun _ _ _ => false) (fun _ _ _ _ => false)
@[elab_as_elim] theorem eLc_el {P : Expr → Prop} {f : Expr → List PySem.Comprehension → Scope → PySem.Pos → Bool} (e : Expr) (h : eLc e f = true) (k : ∀ x gs sc p, f x gs sc p = true → P (.ListComp x gs sc p)) : P e :=
  @PySem.Expr.casesOn (fun e => eLc e f = true → P e) e (fun _ _ _ h => (bft h).elim) (fun _ _ _ h => (bft h).elim) (fun _ _ _ _ h => (bft h).elim) (fun _ _ _ h => (bft h).elim) (fun _ _ _ _ h => (bft h).elim) (fun _ _ _ _ h => (bft h).elim) (fun _ _ _ h => (bft h).elim) (fun _ _ _ h => (bft h).elim) k (fun _ _ _ _ h => (bft h).elim) (fun _ _ _ _ _ h => (bft h).elim) (fun _ _ _ _ h => (bft h).elim) (fun _ _ h => (bft h).elim) (fun _ _ h => (bft h).elim) (fun _ _ h => (bft h).elim) (fun _ _ _ _ h => (bft h).elim) (fun _ _ _ _ h => (bft h).elim) (fun _ _ _ _ h => (bft h).elim) (fun _ _ h => (bft h).elim) (fun _ _ _ h => (bft h).elim) (fun _ _ _ h => (bft h).elim) (fun _ _ _ h => (bft h).elim) (fun _ _ h => (bft h).elim) (fun _ _ h => (bft h).elim) (fun _ _ h => (bft h).elim) (fun _ _ _ h => (bft h).elim) (fun _ _ _ _ h => (bft h).elim) h
noncomputable def sAs (e : Stmt) (f : List Expr → Expr → Bool) : Bool := @PySem.Stmt.casesOn (fun _ => Bool) e (fun _ _ _ _ _ _ _ _ _ _ => false) (fun _ _ _ _ _ _ _ _ _ _ => false) (fun _ _ _ _ _ _ _ _ _ _ _ => false) (fun _ _ => false) (fun _ _ => false) (fun ts v _ => f ts v) (fun _ _ _ _ _ _ _ => false) (fun _ _ _ _ => false) (fun _ _ _ _ _ => false) (fun _ _ _ _ _ => false) (fun _ _ _ _ _ => false) (fun _ _ _ _ => false) (fun _ _ _ _ => false) (fun _ _ _ => false) (fun _ _ _ => false) (fun _ _ _ => false) (fun _ _ _ => false) (fun _ _ _ _ _ => false) (fun _ _ _ _ _ => false) (fun _ _ _ => false) (fun _ _ => false) (fun _ _ _ _ => false) (fun _ _ => false) (fun _ _ => false) (fun _ _ => false) (fun _ => false) (fun _ => false) (fun _ => false)
@[elab_as_elim] theorem sAs_el {P : Stmt → Prop} {f : List Expr → Expr → Bool} (e : Stmt) (h : sAs e f = true) (k : ∀ ts v p, f ts v = true → P (.Assign ts v p)) : P e :=
  @PySem.Stmt.casesOn (fun e => sAs e f = true → P e) e (fun _ _ _ _ _ _ _ _ _ _ h => (bft h).elim) (fun _ _ _ _ _ _ _ _ _ _ h => (bft h).elim) (fun _ _ _ _ _ _ _ _ _ _ _ h => (bft h).elim) (fun _ _ h => (bft h).elim) (fun _ _ h => (bft h).elim) k (fun _ _ _ _ _ _ _ h => (bft h).elim) (fun _ _ _ _ h => (bft h).elim) (fun _ _ _ _ _ h => (bft h).elim) (fun _ _ _ _ _ h => (bft h).elim) (fun _ _ _ _ _ h => (bft h).elim) (fun _ _ _ _ h => (bft h).elim) (fun _ _ _ _ h => (bft h).elim) (fun _ _ _ h => (bft h).elim) (fun _ _ _ h => (bft h).elim) (fun _ _ _ h => (bft h).elim) (fun _ _ _ h => (bft h).elim) (fun _ _ _ _ _ h => (bft h).elim) (fun _ _ _ _ _ h => (bft h).elim) (fun _ _ _ h => (bft h).elim) (fun _ _ h => (bft h).elim) (fun _ _ _ _ h => (bft h).elim) (fun _ _ h => (bft h).elim) (fun _ _ h => (bft h).elim) (fun _ _ h => (bft h).elim) (fun _ h => (bft h).elim) (fun _ h => (bft h).elim) (fun _ h => (bft h).elim) h
noncomputable def sAu (e : Stmt) (f : Expr → PySem.Operator → Expr → Bool) : Bool := @PySem.Stmt.casesOn (fun _ => Bool) e (fun _ _ _ _ _ _ _ _ _ _ => false) (fun _ _ _ _ _ _ _ _ _ _ => false) (fun _ _ _ _ _ _ _ _ _ _ _ => false) (fun _ _ => false) (fun _ _ => false) (fun _ _ _ => false) (fun _ _ _ _ _ _ _ => false) (fun t o v _ => f t o v) (fun _ _ _ _ _ => false) (fun _ _ _ _ _ => false) (fun _ _ _ _ _ => false) (fun _ _ _ _ => false) (fun _ _ _ _ => false) (fun _ _ _ => false) (fun _ _ _ => false) (fun _ _ _ => false) (fun _ _ _ => false) (fun _ _ _ _ _ => false) (fun _ _ _ _ _ => false) (fun _ _ _ => false) (fun _ _ => false) (fun _ _ _ _ => false) (fun _ _ => false) (fun _ _ => false) (fun _ _ => false) (fun _ => false) (fun _ => false) (fun _ => false)
@[elab_as_elim] theorem sAu_el {P : Stmt → Prop} {f : Expr → PySem.Operator → Expr → Bool} (e : Stmt) (h : sAu e f = true) (k : ∀ t o v p, f t o v = true → P (.AugAssign t o v p)) : P e :=
  @PySem.Stmt.casesOn (fun e => sAu e f = true → P e) e (fun _ _ _ _ _ _ _ _ _ _ h => (bft h).elim) (fun _ _ _ _ _ _ _ _ _ _ h => (bft h).elim) (fun _ _ _ _ _ _ _ _ _ _ _ h => (bft h).elim) (fun _ _ h => (bft h).elim) (fun _ _ h => (bft h).elim) (fun _ _ _ h => (bft h).elim) (fun _ _ _ _ _ _ _ h => (bft h).elim) k (fun _ _ _ _ _ h => (bft h).elim) (fun _ _ _ _ _ h => (bft h).elim) (fun _ _ _ _ _ h => (bft h).elim) (fun _ _ _ _ h => (bft h).elim) (fun _ _ _ _ h => (bft h).elim) (fun _ _ _ h => (bft h).elim) (fun _ _ _ h => (bft h).elim) (fun _ _ _ h => (bft h).elim) (fun _ _ _ h => (bft h).elim) (fun _ _ _ _ _ h => (bft h).elim) (fun _ _ _ _ _ h => (bft h).elim) (fun _ _ _ h => (bft h).elim) (fun _ _ h => (bft h).elim) (fun _ _ _ _ h => (bft h).elim) (fun _ _ h => (bft h).elim) (fun _ _ h => (bft h).elim) (fun _ _ h => (bft h).elim) (fun _ h => (bft h).elim) (fun _ h => (bft h).elim) (fun _ h => (bft h).elim) h
noncomputable def sEx (e : Stmt) (f : Expr → Bool) : Bool := @PySem.Stmt.casesOn (fun _ => Bool) e (fun _ _ _ _ _ _ _ _ _ _ => false) (fun _ _ _ _ _ _ _ _ _ _ => false) (fun _ _ _ _ _ _ _ _ _ _ _ => false) (fun _ _ => false) (fun _ _ => false) (fun _ _ _ => false) (fun _ _ _ _ _ _ _ => false) (fun _ _ _ _ => false) (fun _ _ _ _ _ => false) (fun _ _ _ _ _ => false) (fun _ _ _ _ _ => false) (fun _ _ _ _ => false) (fun _ _ _ _ => false) (fun _ _ _ => false) (fun _ _ _ => false) (fun _ _ _ => false) (fun _ _ _ => false) (fun _ _ _ _ _ => false) (fun _ _ _ _ _ => false) (fun _ _ _ => false) (fun _ _ => false) (fun _ _ _ _ => false) (fun _ _ => false) (fun _ _ => false) (fun v _ => f v) (fun _ => false) (fun _ => false) (fun _ => false)
@[elab_as_elim] theorem sEx_el {P : Stmt → Prop} {f : Expr → Bool} (e : Stmt) (h : sEx e f = true) (k : ∀ v p, f v = true → P (.Expr v p)) : P e :=
  @PySem.Stmt.casesOn (fun e => sEx e f = true → P e) e (fun _ _ _ _ _ _ _ _ _ _ h => (bft h).elim) (fun _ _ _ _ _ _ _ _ _ _ h => (bft h).elim) (fun _ _ _ _ _ _ _ _ _ _ _ h => (bft h).elim) (fun _ _ h => (bft h).elim) (fun _ _ h => (bft h).elim) (fun _ _ _ h => (bft h).elim) (fun _ _ _ _ _ _ _ h => (bft h).elim) (fun _ _ _ _ h => (bft h).elim) (fun _ _ _ _ _ h => (bft h).elim) (fun _ _ _ _ _ h => (bft h).elim) (fun _ _ _ _ _ h => (bft h).elim) (fun _ _ _ _ h => (bft h).elim) (fun _ _ _ _ h => (bft h).elim) (fun _ _ _ h => (bft h).elim) (fun _ _ _ h => (bft h).elim) (fun _ _ _ h => (bft h).elim) (fun _ _ _ h => (bft h).elim) (fun _ _ _ _ _ h => (bft h).elim) (fun _ _ _ _ _ h => (bft h).elim) (fun _ _ _ h => (bft h).elim) (fun _ _ h => (bft h).elim) (fun _ _ _ _ h => (bft h).elim) (fun _ _ h => (bft h).elim) (fun _ _ h => (bft h).elim) k (fun _ h => (bft h).elim) (fun _ h => (bft h).elim) (fun _ h => (bft h).elim) h
noncomputable def sIf (e : Stmt) (f : Expr → List Stmt → List Stmt → Bool) : Bool := @PySem.Stmt.casesOn (fun _ => Bool) e (fun _ _ _ _ _ _ _ _ _ _ => false) (fun _ _ _ _ _ _ _ _ _ _ => false) (fun _ _ _ _ _ _ _ _ _ _ _ => false) (fun _ _ => false) (fun _ _ => false) (fun _ _ _ => false) (fun _ _ _ _ _ _ _ => false) (fun _ _ _ _ => false) (fun _ _ _ _ _ => false) (fun _ _ _ _ _ => false) (fun _ _ _ _ _ => false) (fun _ _ _ _ => false) (fun t b o _ => f t b o) (fun _ _ _ => false) (fun _ _ _ => false) (fun _ _ _ => false) (fun _ _ _ => false) (fun _ _ _ _ _ => false) (fun _ _ _ _ _ => false) (fun _ _ _ => false) (fun _ _ => false) (fun _ _ _ _ => false) (fun _ _ => false) (fun _ _ => false) (fun _ _ => false) (fun _ => false) (fun _ => false) (fun _ => false)
@[elab_as_elim] theorem sIf_el {P : Stmt → Prop} {f : Expr → List Stmt → List Stmt → Bool} (e : Stmt) (h : sIf e f = true) (k : ∀ t b o p, f t b o = true → P (.If t b o p)) : P e :=
  @PySem.Stmt.casesOn (fun e => sIf e f = true → P e) e (fun _ _ _ _ _ _ _ _ _ _ h => (bft h).elim) (fun _ _ _ _ _ _ _ _ _ _ h => (bft h).elim) (fun _ _ _ _ _ _ _ _ _ _ _ h => (bft h).elim) (fun _ _ h => (bft h).elim) (fun _ _ h => (bft h).elim) (fun _ _ _ h => (bft h).elim) (fun _ _ _ _ _ _ _ h => (bft h).elim) (fun _ _ _ _ h => (bft h).elim) (fun _ _ _ _ _ h => (bft h).elim) (fun _ _ _ _ _ h => (bft h).elim) (fun _ _ _ _ _ h => (bft h).elim) (fun _ _ _ _ h => (bft h).elim) k (fun _ _ _ h => (bft h).elim) (fun _ _ _ h => (bft h).elim) (fun _ _ _ h => (bft h).elim) (fun _ _ _ h => (bft h).elim) (fun _ _ _ _ _ h => (bft h).elim) (fun _ _ _ _ _ h => (bft h).elim) (fun _ _ _ h => (bft h).elim) (fun _ _ h => (bft h).elim) (fun _ _ _ _ h => (bft h).elim) (fun _ _ h => (bft h).elim) (fun _ _ h => (bft h).elim) (fun _ _ h => (bft h).elim) (fun _ h => (bft h).elim) (fun _ h => (bft h).elim) (fun _ h => (bft h).elim) h
noncomputable def sWh (e : Stmt) (f : Expr → List Stmt → List Stmt → Bool) : Bool := @PySem.Stmt.casesOn (fun _ => Bool) e (fun _ _ _ _ _ _ _ _ _ _ => false) (fun _ _ _ _ _ _ _ _ _ _ => false) (fun _ _ _ _ _ _ _ _ _ _ _ => false) (fun _ _ => false) (fun _ _ => false) (fun _ _ _ => false) (fun _ _ _ _ _ _ _ => false) (fun _ _ _ _ => false) (fun _ _ _ _ _ => false) (fun _ _ _ _ _ => false) (fun _ _ _ _ _ => false) (fun t b o _ => f t b o) (fun _ _ _ _ => false) (fun _ _ _ => false) (fun _ _ _ => false) (fun _ _ _ => false) (fun _ _ _ => false) (fun _ _ _ _ _ => false) (fun _ _ _ _ _ => false) (fun _ _ _ => false) (fun _ _ => false) (fun _ _ _ _ => false) (fun _ _ => false) (fun _ _ => false) (fun _ _ => false) (fun _ => false) (fun _ => false) (fun _ => false)
@[elab_as_elim] theorem sWh_el {P : Stmt → Prop} {f : Expr → List Stmt → List Stmt → Bool} (e : Stmt) (h : sWh e f = true) (k : ∀ t b o p, f t b o = true → P (.While t b o p)) : P e :=
  @PySem.Stmt.casesOn (fun e => sWh e f = true → P e) e (fun _ _ _ _ _ _ _ _ _ _ h => (bft h).elim) (fun _ _ _ _ _ _ _ _ _ _ h => (bft h).elim) (fun _ _ _ _ _ _ _ _ _ _ _ h => (bft h).elim) (fun _ _ h => (bft h).elim) (fun _ _ h => (bft h).elim) (fun _ _ _ h => (bft h).elim) (fun _ _ _ _ _ _ _ h => (bft h).elim) (fun _ _ _ _ h => (bft h).elim) (fun _ _ _ _ _ h => (bft h).elim) (fun _ _ _ _ _ h => (bft h).elim) (fun _ _ _ _ _ h => (bft h).elim) k (fun _ _ _ _ h => (bft h).elim) (fun _ _ _ h => (bft h).elim) (fun _ _ _ h => (bft h).elim) (fun _ _ _ h => (bft h).elim) (fun _ _ _ h => (bft h).elim) (fun _ _ _ _ _ h => (bft h).elim) (fun _ _ _ _ _ h => (bft h).elim) (fun _ _ _ h => (bft h).elim) (fun _ _ h => (bft h).elim) (fun _ _ _ _ h => (bft h).elim) (fun _ _ h => (bft h).elim) (fun _ _ h => (bft h).elim) (fun _ _ h => (bft h).elim) (fun _ h => (bft h).elim) (fun _ h => (bft h).elim) (fun _ h => (bft h).elim) h
noncomputable def sFo (e : Stmt) (f : Expr → Expr → List Stmt → List Stmt → Bool) : Bool := @PySem.Stmt.casesOn (fun _ => Bool) e (fun _ _ _ _ _ _ _ _ _ _ => false) (fun _ _ _ _ _ _ _ _ _ _ => false) (fun _ _ _ _ _ _ _ _ _ _ _ => false) (fun _ _ => false) (fun _ _ => false) (fun _ _ _ => false) (fun _ _ _ _ _ _ _ => false) (fun _ _ _ _ => false) (fun _ _ _ _ _ => false) (fun t i b o _ => f t i b o) (fun _ _ _ _ _ => false) (fun _ _ _ _ => false) (fun _ _ _ _ => false) (fun _ _ _ => false) (fun _ _ _ => false) (fun _ _ _ => false) (fun _ _ _ => false) (fun _ _ _ _ _ => false) (fun _ _ _ _ _ => false) (fun _ _ _ => false) (fun _ _ => false) (fun _ _ _ _ => false) (fun _ _ => false) (fun _ _ => false) (fun _ _ => false) (fun _ => false) (fun _ => false) (fun _ => false)
@[elab_as_elim] theorem sFo_el {P : Stmt → Prop} {f : Expr → Expr → List Stmt → List Stmt → Bool} (e : Stmt) (h : sFo e f = true) (k : ∀ t i b o p, f t i b o = true → P (.For t i b o p)) : P e :=
  @PySem.Stmt.casesOn (fun e => sFo e f = true → P e) e (fun _ _ _ _ _ _ _ _ _ _ h => (bft h).elim) (fun _ _ _ _ _ _ _ _ _ _ h => (bft h).elim) (fun _ _ _ _ _ _ _ _ _ _ _ h => (bft h).elim) (fun _ _ h => (bft h).elim) (fun _ _ h => (bft h).elim) (fun _ _ _ h => (bft h).elim) (fun _ _ _ _ _ _ _ h => (bft h).elim) (fun _ _ _ _ h => (bft h).elim) (fun _ _ _ _ _ h => (bft h).elim) k (fun _ _ _ _ _ h => (bft h).elim) (fun _ _ _ _ h => (bft h).elim) (fun _ _ _ _ h => (bft h).elim) (fun _ _ _ h => (bft h).elim) (fun _ _ _ h => (bft h).elim) (fun _ _ _ h => (bft h).elim) (fun _ _ _ h => (bft h).elim) (fun _ _ _ _ _ h => (bft h).elim) (fun _ _ _ _ _ h => (bft h).elim) (fun _ _ _ h => (bft h).elim) (fun _ _ h => (bft h).elim) (fun _ _ _ _ h => (bft h).elim) (fun _ _ h => (bft h).elim) (fun _ _ h => (bft h).elim) (fun _ _ h => (bft h).elim) (fun _ h => (bft h).elim) (fun _ h => (bft h).elim) (fun _ h => (bft h).elim) h
noncomputable def sRe (e : Stmt) (f : Option Expr → Bool) : Bool := @PySem.Stmt.casesOn (fun _ => Bool) e (fun _ _ _ _ _ _ _ _ _ _ => false) (fun _ _ _ _ _ _ _ _ _ _ => false) (fun _ _ _ _ _ _ _ _ _ _ _ => false) (fun v _ => f v) (fun _ _ => false) (fun _ _ _ => false) (fun _ _ _ _ _ _ _ => false) (fun _ _ _ _ => false) (fun _ _ _ _ _ => false) (fun _ _ _ _ _ => false) (fun _ _ _ _ _ => false) (fun _ _ _ _ => false) (fun _ _ _ _ => false) (fun _ _ _ => false) (fun _ _ _ => false) (fun _ _ _ => false) (fun _ _ _ => false) (fun _ _ _ _ _ => false) (fun _ _ _ _ _ => false) (fun _ _ _ => false) (fun _ _ => false) (fun _ _ _ _ => false) (fun _ _ => false) (fun _ _ => false) (fun _ _ => false) (fun _ => false) (fun _ => false) (fun _ => false)
@[elab_as_elim] theorem sRe_el {P : Stmt → Prop} {f : Option Expr → Bool} (e : Stmt) (h : sRe e f = true) (k : ∀ v p, f v = true → P (.Return v p)) : P e :=
  @PySem.Stmt.casesOn (fun e => sRe e f = true → P e) e (fun _ _ _ _ _ _ _ _ _ _ h => (bft h).elim) (fun _ _ _ _ _ _ _ _ _ _ h => (bft h).elim) (fun _ _ _ _ _ _ _ _ _ _ _ h => (bft h).elim) k (fun _ _ h => (bft h).elim) (fun _ _ _ h => (bft h).elim) (fun _ _ _ _ _ _ _ h => (bft h).elim) (fun _ _ _ _ h => (bft h).elim) (fun _ _ _ _ _ h => (bft h).elim) (fun _ _ _ _ _ h => (bft h).elim) (fun _ _ _ _ _ h => (bft h).elim) (fun _ _ _ _ h => (bft h).elim) (fun _ _ _ _ h => (bft h).elim) (fun _ _ _ h => (bft h).elim) (fun _ _ _ h => (bft h).elim) (fun _ _ _ h => (bft h).elim) (fun _ _ _ h => (bft h).elim) (fun _ _ _ _ _ h => (bft h).elim) (fun _ _ _ _ _ h => (bft h).elim) (fun _ _ _ h => (bft h).elim) (fun _ _ h => (bft h).elim) (fun _ _ _ _ h => (bft h).elim) (fun _ _ h => (bft h).elim) (fun _ _ h => (bft h).elim) (fun _ _ h => (bft h).elim) (fun _ h => (bft h).elim) (fun _ h => (bft h).elim) (fun _ h => (bft h).elim) h
noncomputable def b1 {α : Type} (l : List α) (f : α → Bool) : Bool := match l with
  | x :: r => (match r with | [] => f x | _ :: _ => false)
  | [] => false
@[elab_as_elim] theorem b1_el {α : Type} {P : List α → Prop} {f : α → Bool} (l : List α) (h : b1 l f = true) (k : ∀ x, f x = true → P [x]) : P l := by
  cases l with
  | nil => exact (bft h).elim
  | cons x r =>
    cases r with
    | nil => exact k x h
    | cons _ _ => exact (bft h).elim
noncomputable def bc {α : Type} (l : List α) (f : α → List α → Bool) : Bool := match l with
  | x :: r => f x r
  | [] => false
@[elab_as_elim] theorem bc_el {α : Type} {P : List α → Prop} {f : α → List α → Bool} (l : List α) (h : bc l f = true) (k : ∀ x r, f x r = true → P (x :: r)) : P l := by
  cases l with
  | nil => exact (bft h).elim
  | cons x r => exact k x r h
noncomputable def bo {α : Type} (o : Option α) (f : α → Bool) : Bool := match o with
  | some x => f x
  | none => false
theorem bo_el {α : Type} {C : Prop} {o : Option α} {f : α → Bool} (h : bo o f = true) (k : ∀ x, o = some x → f x = true → C) : C := by
  cases o with
  | none => exact (bft h).elim
  | some x => exact k x rfl h
@[elab_as_elim] theorem bv_el {α : Type} {P : Option α → Prop} {f : α → Bool} (o : Option α) (h : bo o f = true) (k : ∀ x, f x = true → P (some x)) : P o := by
  cases o with
  | none => exact (bft h).elim
  | some x => exact k x h
noncomputable def bg (g : PySem.Comprehension) (f : Expr → Expr → List Expr → Bool) : Bool := match g with
  | ⟨t, it, ifs, as⟩ => decide (as = 0) && f t it ifs
@[elab_as_elim] theorem bg_el {P : PySem.Comprehension → Prop} {f : Expr → Expr → List Expr → Bool} (g : PySem.Comprehension) (h : bg g f = true) (k : ∀ t it ifs, f t it ifs = true → P ⟨t, it, ifs, 0⟩) : P g := by
  obtain ⟨t, it, ifs, as⟩ := g
  exact and_el h fun h1 h2 => of_decide_eq_true h1 ▸ k t it ifs h2
@[elab_as_elim] theorem em_el {α : Type} {P : List α → Prop} (l : List α) (h : l.isEmpty = true) (k : P []) : P l := by
  cases l with
  | nil => exact k
  | cons _ _ => exact (bft h).elim
theorem nt {b : Bool} (h : (!b) = true) : b = false := by
  cases b with
  | false => rfl
  | true => exact (bft h).elim
variable (N : Nms)
mutual
noncomputable def ckE (vs : List Str) (sc : Scope) : Ex → Expr → Bool
  | .const v, e => eC e fun c => ckConst v c
  | .glob g, e => eN e fun x _ => (N.gn[g]? == some x) && kG sc x
  | .var i, e => eN e fun x _ => vs[i]? == some x
  | .bin o a b, e => eB e fun l op r => ckOp o op && (ckE vs sc a l && ckE vs sc b r)
  | .neg a, e => eU e fun op x => decide (op = .USub) && ckE vs sc a x
  | .inv a, e => eU e fun op x => decide (op = .Invert) && ckE vs sc a x
  | .not a, e => eU e fun op x => decide (op = .Not) && ckE vs sc a x
  | .and es, e => eBo e fun op xs => decide (op = .And) && ckEs vs sc es xs
  | .or es, e => eBo e fun op xs => decide (op = .Or) && ckEs vs sc es xs
  | .cmp o a b, e => eCm e fun l os rs => b1 os fun op => b1 rs fun r => ckC o op && (ckE vs sc a l && ckE vs sc b r)
  | .cmp2 o1 o2 a b c, e => eCm e fun l os rs => bc os fun op1 os => b1 os fun op2 => bc rs fun r1 rs => b1 rs fun r2 => ckC o1 op1 && (ckC o2 op2 && (ckE vs sc a l && (ckE vs sc b r1 && ckE vs sc c r2)))
  | .ite c a b, e => eIf e fun t x y => ckE vs sc c t && (ckE vs sc a x && ckE vs sc b y)
  | .attr a k, e => eA e fun x n _ => (N.attrs[k]? == some n) && (!isCall x && ckE vs sc a x)
  | .item a i, e => eS e fun x y => ckE vs sc a x && ckE vs sc i y
  | .sliceFrom a lo, e => eS e fun x y => ckE vs sc a x && (eN x fun _ _ => eSl y fun l h t => bo l fun l => eC l fun c => ckConst (.int lo) c && (h.isNone && t.isNone))
  | .call f es, e => eCa e fun fn xs ks _ => eN fn fun x _ => ckF N f x && (kG sc x && (ks.isEmpty && (decide (xs.length ≤ 20) && ckEs vs sc es xs)))
  | .append a b, e => eCa e fun fn xs ks p => eA fn fun x n ap => b1 xs fun y => ks.isEmpty && ((n == Str.ofString "append") && (decide (ap.endLine = p.line) && (!isCall x && (!isStar y && (ckE vs sc a x && ckE vs sc b y)))))
  | .count a b, e => eCa e fun fn xs ks p => eA fn fun x n ap => b1 xs fun y => ks.isEmpty && ((n == Str.ofString "count") && (decide (ap.endLine = p.line) && (!isCall x && (!isStar y && (ckE vs sc a x && ckE vs sc b y)))))
  | .list es, e => eL e fun xs => ckEs vs sc es xs
  | .tuple es, e => eT e fun xs => ckEs vs sc es xs
  | .comp nt caps elt iter conds, e => eLc e fun x gs scope _ => b1 gs fun g => bg g fun t it ifs => bo (targets t) fun tn => bo (capNames vs caps) fun cs =>
      decide (tn.length = nt) && (ckScope sc scope tn cs && (nodupS (tn ++ cs) && (ckE vs sc iter it && (ckE (tn ++ cs) (relab sc scope) elt x && ckEs (tn ++ cs) (relab sc scope) conds ifs))))
noncomputable def ckEs (vs : List Str) (sc : Scope) : Exs → List Expr → Bool
  | .nil, es => es.isEmpty
  | .cons e r, es => bc es fun x xs => ckE vs sc e x && ckEs vs sc r xs
end

noncomputable def isTup (e : Expr) : Bool := Nat.beq e.ctorIdx 25
noncomputable def ckComp (sc : Scope) (x : Str) (p : PySem.Pos) (e : Expr) : Bool := match isComp e with
  | true => eLc e fun _ _ scope pos => (sc.kind == .function) && ((sc.names.lookup x == some .local) && ((p.line == pos.line) && !(scope.names.any fun (n, k) => n == x && (k == .local || k == .cell))))
  | false => true
noncomputable def ckStore (vs : List Str) : List Nat → List Str → Bool
  | [], xs => xs.isEmpty
  | i :: is, xs => bc xs fun x xs => (vs[i]? == some x) && ckStore vs is xs
noncomputable def ckTupVal (sc : Scope) (ts : List Expr) (e : Expr) : Bool := match isTup e with
  | true => eT e fun es => decide (es.length = 2) && ((sc.kind == .function) && (es.all (fun e => !isStar e) && (!es.all (PySem.foldedForSure 8) && (!es.all (PySem.constantsAlone 8) &&
      bc ts fun t1 ts => b1 ts fun t2 => eN t1 fun x1 p1 => eN t2 fun x2 p2 => (sc.names.lookup x1 == some .local) && ((sc.names.lookup x2 == some .local) && ((p2.line == p1.line) && x1 != x2))))))
  | false => !isComp e

mutual
noncomputable def ckS (vs : List Str) (sc : Scope) : St → Stmt → Bool
  | .assign i e, s => sAs s fun ts v => b1 ts fun t => eN t fun x p => (vs[i]? == some x) && (ckComp sc x p v && ckE N vs sc e v)
  | .assignTup is e, s => sAs s fun ts v => b1 ts fun t => eT t fun ts => bo (namesOf ts) fun xs => decide (2 ≤ xs.length) && (ckStore vs is xs && (ckTupVal sc ts v && ckE N vs sc e v))
  | .setAttr o k e, s => sAs s fun ts v => b1 ts fun t => eA t fun x n _ => (N.attrs[k]? == some n) && (!isComp v && (ckE N vs sc o x && ckE N vs sc e v))
  | .setItem o i e, s => sAs s fun ts v => b1 ts fun t => eS t fun x y => !isComp v && (ckE N vs sc o x && (ckE N vs sc i y && ckE N vs sc e v))
  | .aug i o e, s => sAu s fun t op v => eN t fun x _ => (vs[i]? == some x) && (ckOp o op && ckE N vs sc e v)
  | .augItem a i o e, s => sAu s fun t op v => eS t fun x y => ckOp o op && (ckE N vs sc a x && (ckE N vs sc i y && ckE N vs sc e v))
  | .expr e, s => sEx s fun v => !isComp v && ckE N vs sc e v
  | .ite c t f, s => sIf s fun x b o => ckE N vs sc c x && (ckSs vs sc t b && ckSs vs sc f o)
  | .while c b, s => sWh s fun x y o => o.isEmpty && (ckE N vs sc c x && ckSs vs sc b y)
  | .for ts it b, s => sFo s fun t x y o => o.isEmpty && (bo (targets t) fun tn => ckStore vs ts tn && (ckE N vs sc it x && ckSs vs sc b y))
  | .ret e, s => sRe s fun v => bo v fun v => ckE N vs sc e v
  | .stop, _ => true
noncomputable def ckSs (vs : List Str) (sc : Scope) : Sts → List Stmt → Bool
  | .nil, ss => ss.isEmpty
  | .cons s r, ss => bc ss fun x xs => ckS vs sc s x && ckSs vs sc r xs
end
end Mine
end

section
namespace Mine
noncomputable def d_count_bits : FnDef := ⟨2, 1, (.cons (.assign 1 (.const (.int 0)))
 (.cons (.while (.var 0) (.cons (.aug 0 .band (.bin .sub (.var 0) (.const (.int 1))))
 (.cons (.aug 1 .add (.const (.int 1)))
 .nil)))
 (.cons (.ret (.var 1))
 .nil)))⟩
noncomputable def d_squares_of : FnDef := ⟨3, 1, (.cons (.assign 1 (.list .nil))
 (.cons (.assign 2 (.const (.int 0)))
 (.cons (.while (.var 0) (.cons (.while (.not (.bin .band (.var 0) (.const (.int 15)))) (.cons (.aug 0 .shr (.const (.int 4)))
 (.cons (.aug 2 .add (.const (.int 4)))
 .nil)))
 (.cons (.ite (.bin .band (.var 0) (.const (.int 1))) (.cons (.expr (.append (.var 1) (.var 2)))
 .nil) .nil)
 (.cons (.aug 0 .shr (.const (.int 1)))
 (.cons (.aug 2 .add (.const (.int 1)))
 .nil)))))
 (.cons (.ret (.var 1))
 .nil))))⟩
noncomputable def d_own_rank : FnDef := ⟨4, 3, (.cons (.assign 3 (.bin .fdiv (.var 2) (.attr (.var 0) 10)))
 (.cons (.ret (.ite (.cmp .eq (.var 1) (.glob 0)) (.var 3) (.bin .sub (.bin .sub (.attr (.var 0) 11) (.const (.int 1))) (.var 3))))
 .nil))⟩
noncomputable def d_divide : FnDef := ⟨3, 2, (.cons (.assign 2 (.bin .fdiv (.call .abs (.cons (.var 0) .nil)) (.call .abs (.cons (.var 1) .nil))))
 (.cons (.ite (.cmp .ne (.cmp .lt (.var 0) (.const (.int 0))) (.cmp .lt (.var 1) (.const (.int 0)))) (.cons (.ret (.neg (.var 2)))
 .nil) .nil)
 (.cons (.ret (.var 2))
 .nil)))⟩
noncomputable def d_make_score : FnDef := ⟨2, 2, (.cons (.ret (.bin .add (.bin .shl (.var 1) (.const (.int 16))) (.var 0)))
 .nil)⟩
noncomputable def d_PawnFacts_init : FnDef := ⟨2, 2, (.cons (.setAttr (.var 0) 0 (.var 1))
 (.cons (.setAttr (.var 0) 1 (.const (.int 0)))
 (.cons (.setAttr (.var 0) 2 (.const (.int 0)))
 (.cons (.setAttr (.var 0) 3 (.const (.int 0)))
 (.cons (.setAttr (.var 0) 4 (.const (.int 0)))
 (.cons (.setAttr (.var 0) 5 (.const (.int 0)))
 (.cons (.setAttr (.var 0) 6 (.const (.int 0)))
 (.cons (.setAttr (.var 0) 7 (.const (.int 0)))
 (.cons (.setAttr (.var 0) 8 (.const (.int 0)))
 (.cons (.setAttr (.var 0) 9 (.const (.int 0)))
 .nil))))))))))⟩
noncomputable def d_pawns_of : FnDef := ⟨2, 2, (.cons (.ret (.bin .band (.item (.attr (.var 0) 27) (.glob 2)) (.item (.attr (.var 0) 28) (.var 1))))
 .nil)⟩
noncomputable def d_shift_up : FnDef := ⟨3, 3, (.cons (.ite (.cmp .eq (.var 2) (.glob 0)) (.cons (.ret (.bin .band (.bin .shl (.var 1) (.attr (.var 0) 10)) (.attr (.var 0) 13)))
 .nil) .nil)
 (.cons (.ret (.bin .shr (.var 1) (.attr (.var 0) 10)))
 .nil))⟩
noncomputable def d_neighbours : FnDef := ⟨4, 2, (.cons (.assign 2 (.bin .shl (.bin .band (.var 1) (.inv (.item (.attr (.var 0) 16) (.bin .sub (.attr (.var 0) 10) (.const (.int 1)))))) (.const (.int 1))))
 (.cons (.assign 3 (.bin .shr (.bin .band (.var 1) (.inv (.item (.attr (.var 0) 16) (.const (.int 0))))) (.const (.int 1))))
 (.cons (.ret (.bin .band (.bin .bor (.var 2) (.var 3)) (.attr (.var 0) 13)))
 .nil)))⟩
noncomputable def d_fill_up : FnDef := ⟨4, 3, (.cons (.assign 3 (.attr (.var 0) 10))
 (.cons (.while (.cmp .lt (.var 3) (.attr (.var 0) 12)) (.cons (.ite (.cmp .eq (.var 2) (.glob 0)) (.cons (.aug 1 .bor (.bin .band (.bin .shl (.var 1) (.var 3)) (.attr (.var 0) 13)))
 .nil) (.cons (.aug 1 .bor (.bin .shr (.var 1) (.var 3)))
 .nil))
 (.cons (.aug 3 .add (.var 3))
 .nil)))
 (.cons (.ret (.var 1))
 .nil)))⟩
noncomputable def d_front_span : FnDef := ⟨3, 3, (.cons (.ret (.call (.user 7) (.cons (.var 0) (.cons (.call (.user 9) (.cons (.var 0) (.cons (.var 1) (.cons (.var 2) .nil)))) (.cons (.var 2) .nil)))))
 .nil)⟩
noncomputable def d_attack_span : FnDef := ⟨3, 3, (.cons (.ret (.call (.user 10) (.cons (.var 0) (.cons (.call (.user 8) (.cons (.var 0) (.cons (.var 1) .nil))) (.cons (.var 2) .nil)))))
 .nil)⟩
noncomputable def d_pawn_attacks : FnDef := ⟨3, 3, (.cons (.ret (.call (.user 7) (.cons (.var 0) (.cons (.call (.user 8) (.cons (.var 0) (.cons (.var 1) .nil))) (.cons (.var 2) .nil)))))
 .nil)⟩
noncomputable def d_candidates_of : FnDef := ⟨10, 4, (.cons (.assign 4 (.const (.int 0)))
 (.cons (.for [5] (.call (.user 1) (.cons (.var 1) .nil)) (.cons (.assign 6 (.bin .shl (.const (.int 1)) (.var 5)))
 (.cons (.assign 7 (.call (.user 8) (.cons (.var 0) (.cons (.var 6) .nil))))
 (.cons (.assign 8 (.call (.user 0) (.cons (.bin .band (.var 1) (.call (.user 9) (.cons (.var 0) (.cons (.var 7) (.cons (.bin .sub (.const (.int 1)) (.var 3)) .nil))))) .nil)))
 (.cons (.assign 9 (.call (.user 0) (.cons (.bin .band (.var 2) (.call (.user 10) (.cons (.var 0) (.cons (.var 7) (.cons (.var 3) .nil))))) .nil)))
 (.cons (.ite (.cmp .ge (.var 8) (.var 9)) (.cons (.aug 4 .bor (.var 6))
 .nil) .nil)
 .nil))))))
 (.cons (.ret (.var 4))
 .nil)))⟩
noncomputable def d_pawn_facts : FnDef := ⟨10, 2, (.cons (.assign 2 (.attr (.var 0) 24))
 (.cons (.assign 3 (.call (.user 6) (.cons (.var 0) (.cons (.var 1) .nil))))
 (.cons (.assign 4 (.call (.user 6) (.cons (.var 0) (.cons (.bin .sub (.const (.int 1)) (.var 1)) .nil))))
 (.cons (.assign 5 (.call (.user 8) (.cons (.var 2) (.cons (.var 3) .nil))))
 (.cons (.assign 6 (.call (.cls 0) (.cons (.var 3) .nil)))
 (.cons (.setAttr (.var 6) 1 (.call (.user 7) (.cons (.var 2) (.cons (.var 5) (.cons (.var 1) .nil)))))
 (.cons (.setAttr (.var 6) 2 (.call (.user 10) (.cons (.var 2) (.cons (.var 5) (.cons (.var 1) .nil)))))
 (.cons (.setAttr (.var 6) 3 (.bin .band (.var 3) (.inv (.bin .bor (.call (.user 9) (.cons (.var 2) (.cons (.var 5) (.cons (.glob 0) .nil)))) (.call (.user 9) (.cons (.var 2) (.cons (.var 5) (.cons (.glob 1) .nil))))))))
 (.cons (.setAttr (.var 6) 4 (.bin .band (.var 3) (.call (.user 10) (.cons (.var 2) (.cons (.var 3) (.cons (.bin .sub (.const (.int 1)) (.var 1)) .nil))))))
 (.cons (.assign 7 (.call (.user 9) (.cons (.var 2) (.cons (.var 5) (.cons (.var 1) .nil)))))
 (.cons (.assign 8 (.bin .bor (.var 4) (.call (.user 12) (.cons (.var 2) (.cons (.var 4) (.cons (.bin .sub (.const (.int 1)) (.var 1)) .nil))))))
 (.cons (.setAttr (.var 6) 5 (.bin .band (.bin .band (.bin .band (.var 3) (.inv (.var 7))) (.inv (.attr (.var 6) 3))) (.call (.user 7) (.cons (.var 2) (.cons (.var 8) (.cons (.bin .sub (.const (.int 1)) (.var 1)) .nil))))))
 (.cons (.setAttr (.var 6) 6 (.bin .band (.var 3) (.bin .bor (.var 5) (.attr (.var 6) 1))))
 (.cons (.setAttr (.var 6) 7 (.bin .band (.var 3) (.call (.user 10) (.cons (.var 2) (.cons (.var 4) (.cons (.bin .sub (.const (.int 1)) (.var 1)) .nil))))))
 (.cons (.setAttr (.var 6) 8 (.bin .band (.bin .band (.bin .band (.var 3) (.inv (.attr (.var 6) 4))) (.inv (.attr (.var 6) 7))) (.inv (.call (.user 11) (.cons (.var 2) (.cons (.var 4) (.cons (.bin .sub (.const (.int 1)) (.var 1)) .nil)))))))
 (.cons (.assign 9 (.bin .band (.bin .band (.bin .band (.var 3) (.inv (.attr (.var 6) 4))) (.inv (.attr (.var 6) 7))) (.inv (.attr (.var 6) 8))))
 (.cons (.setAttr (.var 6) 9 (.bin .band (.call (.user 13) (.cons (.var 2) (.cons (.var 3) (.cons (.var 4) (.cons (.var 1) .nil))))) (.var 9)))
 (.cons (.ret (.var 6))
 .nil))))))))))))))))))⟩
noncomputable def d_connected_score : FnDef := ⟨11, 4, (.cons (.assign 4 (.bin .shl (.const (.int 1)) (.var 2)))
 (.cons (.assign 5 (.call (.user 2) (.cons (.var 0) (.cons (.var 3) (.cons (.var 2) .nil)))))
 (.cons (.assign 6 (.call (.user 8) (.cons (.var 0) (.cons (.var 4) .nil))))
 (.cons (.assign 7 (.ite (.bin .band (.var 6) (.attr (.var 1) 0)) (.const (.int 1)) (.const (.int 0))))
 (.cons (.assign 8 (.ite (.bin .band (.var 4) (.attr (.var 1) 7)) (.const (.int 1)) (.const (.int 0))))
 (.cons (.assign 9 (.call (.user 0) (.cons (.bin .band (.call (.user 7) (.cons (.var 0) (.cons (.var 6) (.cons (.bin .sub (.const (.int 1)) (.var 3)) .nil)))) (.attr (.var 1) 0)) .nil)))
 (.cons (.assign 10 (.bin .add (.bin .mul (.bin .add (.bin .mul (.const (.int 3)) (.var 5)) (.const (.int 2))) (.bin .sub (.bin .add (.const (.int 2)) (.var 7)) (.var 8))) (.bin .mul (.const (.int 9)) (.var 9))))
 (.cons (.ret (.call (.user 4) (.cons (.var 10) (.cons (.call (.user 3) (.cons (.bin .mul (.var 10) (.bin .sub (.var 5) (.const (.int 2)))) (.cons (.const (.int 4)) .nil))) .nil))))
 .nil))))))))⟩
noncomputable def d_one_pawn_score : FnDef := ⟨8, 4, (.cons (.assign 4 (.bin .shl (.const (.int 1)) (.var 2)))
 (.cons (.assign 5 (.call (.user 2) (.cons (.var 0) (.cons (.var 3) (.cons (.var 2) .nil)))))
 (.cons (.assign 6 (.ite (.bin .band (.var 4) (.attr (.var 1) 7)) (.const (.int 0)) (.const (.int 1))))
 (.cons (.assign 7 (.const (.int 0)))
 (.cons (.ite (.bin .band (.var 4) (.attr (.var 1) 6)) (.cons (.aug 7 .add (.call (.user 15) (.cons (.var 0) (.cons (.var 1) (.cons (.var 2) (.cons (.var 3) .nil))))))
 .nil) .nil)
 (.cons (.ite (.bin .band (.var 4) (.attr (.var 1) 3)) (.cons (.aug 7 .sub (.call (.user 4) (.cons (.bin .add (.const (.int 5)) (.bin .mul (.const (.int 12)) (.var 6))) (.cons (.bin .add (.const (.int 15)) (.bin .mul (.const (.int 11)) (.var 6))) .nil))))
 .nil) .nil)
 (.cons (.ite (.bin .band (.var 4) (.attr (.var 1) 5)) (.cons (.aug 7 .sub (.call (.user 4) (.cons (.bin .add (.const (.int 9)) (.bin .mul (.const (.int 12)) (.var 6))) (.cons (.bin .add (.const (.int 24)) (.bin .mul (.const (.int 11)) (.var 6))) .nil))))
 .nil) .nil)
 (.cons (.ite (.bin .band (.var 4) (.attr (.var 1) 4)) (.cons (.aug 7 .sub (.call (.user 4) (.cons (.const (.int 11)) (.cons (.const (.int 50)) .nil))))
 .nil) .nil)
 (.cons (.ite (.bin .band (.var 4) (.attr (.var 1) 8)) (.cons (.aug 7 .add (.call (.user 4) (.cons (.bin .mul (.bin .mul (.const (.int 4)) (.var 5)) (.var 5)) (.cons (.bin .add (.bin .mul (.bin .mul (.const (.int 6)) (.var 5)) (.var 5)) (.bin .mul (.const (.int 5)) (.var 5))) .nil))))
 .nil) .nil)
 (.cons (.ite (.bin .band (.var 4) (.attr (.var 1) 9)) (.cons (.aug 7 .add (.call (.user 4) (.cons (.bin .mul (.const (.int 2)) (.var 5)) (.cons (.bin .mul (.const (.int 5)) (.var 5)) .nil))))
 .nil) .nil)
 (.cons (.ret (.var 7))
 .nil)))))))))))⟩
noncomputable def d_pawn_score : FnDef := ⟨5, 2, (.cons (.assign 2 (.call (.user 14) (.cons (.var 0) (.cons (.var 1) .nil))))
 (.cons (.assign 3 (.const (.int 0)))
 (.cons (.for [4] (.call (.user 1) (.cons (.attr (.var 2) 0) .nil)) (.cons (.aug 3 .add (.call (.user 16) (.cons (.attr (.var 0) 24) (.cons (.var 2) (.cons (.var 4) (.cons (.var 1) .nil))))))
 .nil))
 (.cons (.ret (.var 3))
 .nil))))⟩
noncomputable def d_Geometry_init : FnDef := ⟨5, 5, (.cons (.setAttr (.var 0) 10 (.var 1))
 (.cons (.setAttr (.var 0) 11 (.var 2))
 (.cons (.setAttr (.var 0) 12 (.bin .mul (.var 1) (.var 2)))
 (.cons (.setAttr (.var 0) 13 (.bin .sub (.bin .shl (.const (.int 1)) (.bin .mul (.var 1) (.var 2))) (.const (.int 1))))
 (.cons (.setAttr (.var 0) 14 (.and (.cons (.var 3) (.cons (.cmp .ge (.var 2) (.const (.int 5))) .nil))))
 (.cons (.setAttr (.var 0) 15 (.var 4))
 (.cons (.setAttr (.var 0) 16 (.list .nil))
 (.cons (.setAttr (.var 0) 17 (.list .nil))
 (.cons (.setAttr (.var 0) 18 (.list .nil))
 (.cons (.setAttr (.var 0) 19 (.list .nil))
 (.cons (.setAttr (.var 0) 20 (.list .nil))
 (.cons (.setAttr (.var 0) 21 (.list (.cons (.list .nil) (.cons (.list .nil) .nil))))
 (.cons (.setAttr (.var 0) 22 (.list .nil))
 (.cons (.setAttr (.var 0) 23 (.list .nil))
 .nil))))))))))))))⟩
noncomputable def d_is_growing : FnDef := ⟨1, 1, (.cons (.ret (.or (.cons (.cmp .gt (.item (.glob 5) (.var 0)) (.const (.int 0))) (.cons (.cmp .eq (.var 0) (.const (.int 1))) .nil))))
 .nil)⟩
noncomputable def d_add_masks : FnDef := ⟨5, 1, (.cons (.assign 1 (.bin .sub (.bin .shl (.const (.int 1)) (.attr (.var 0) 10)) (.const (.int 1))))
 (.cons (.assign 2 (.const (.int 0)))
 (.cons (.for [3] (.call .range1 (.cons (.attr (.var 0) 11) .nil)) (.cons (.expr (.append (.attr (.var 0) 17) (.bin .shl (.var 1) (.bin .mul (.var 3) (.attr (.var 0) 10)))))
 (.cons (.aug 2 .bor (.bin .shl (.const (.int 1)) (.bin .mul (.var 3) (.attr (.var 0) 10))))
 .nil)))
 (.cons (.for [4] (.call .range1 (.cons (.attr (.var 0) 10) .nil)) (.cons (.expr (.append (.attr (.var 0) 16) (.bin .shl (.var 2) (.var 4))))
 .nil))
 .nil))))⟩
noncomputable def d_inner_squares : FnDef := ⟨3, 2, (.cons (.assign 2 (.const (.int 0)))
 (.cons (.ite (.cmp .gt (.item (.glob 4) (.var 1)) (.const (.int 0))) (.cons (.aug 2 .bor (.item (.attr (.var 0) 16) (.bin .sub (.attr (.var 0) 10) (.const (.int 1)))))
 .nil) .nil)
 (.cons (.ite (.cmp .lt (.item (.glob 4) (.var 1)) (.const (.int 0))) (.cons (.aug 2 .bor (.item (.attr (.var 0) 16) (.const (.int 0))))
 .nil) .nil)
 (.cons (.ite (.cmp .gt (.item (.glob 5) (.var 1)) (.const (.int 0))) (.cons (.aug 2 .bor (.item (.attr (.var 0) 17) (.bin .sub (.attr (.var 0) 11) (.const (.int 1)))))
 .nil) .nil)
 (.cons (.ite (.cmp .lt (.item (.glob 5) (.var 1)) (.const (.int 0))) (.cons (.aug 2 .bor (.item (.attr (.var 0) 17) (.const (.int 0))))
 .nil) .nil)
 (.cons (.ret (.bin .band (.attr (.var 0) 13) (.inv (.var 2))))
 .nil))))))⟩
noncomputable def d_add_rays : FnDef := ⟨8, 1, (.cons (.setAttr (.var 0) 19 (.bin .mul (.list (.cons (.const (.int 0)) .nil)) (.attr (.var 0) 12)))
 (.cons (.for [1] (.call .range1 (.cons (.const (.int 8)) .nil)) (.cons (.assign 2 (.call (.user 21) (.cons (.var 0) (.cons (.var 1) .nil))))
 (.cons (.assign 3 (.bin .add (.bin .mul (.item (.glob 5) (.var 1)) (.attr (.var 0) 10)) (.item (.glob 4) (.var 1))))
 (.cons (.assign 4 (.bin .mul (.list (.cons (.const (.int 0)) .nil)) (.attr (.var 0) 12)))
 (.cons (.assign 5 (.call .range1 (.cons (.attr (.var 0) 12) .nil)))
 (.cons (.ite (.call (.user 19) (.cons (.var 1) .nil)) (.cons (.assign 5 (.call .range3 (.cons (.bin .sub (.attr (.var 0) 12) (.const (.int 1))) (.cons (.neg (.const (.int 1))) (.cons (.neg (.const (.int 1))) .nil)))))
 .nil) .nil)
 (.cons (.for [6] (.var 5) (.cons (.ite (.bin .band (.bin .shr (.var 2) (.var 6)) (.const (.int 1))) (.cons (.assign 7 (.bin .add (.var 6) (.var 3)))
 (.cons (.setItem (.var 4) (.var 6) (.bin .bor (.item (.var 4) (.var 7)) (.bin .shl (.const (.int 1)) (.var 7))))
 (.cons (.augItem (.attr (.var 0) 19) (.var 6) .bor (.bin .shl (.const (.int 1)) (.var 7)))
 .nil))) .nil)
 .nil))
 (.cons (.expr (.append (.attr (.var 0) 18) (.var 4)))
 .nil))))))))
 .nil))⟩
noncomputable def d_add_pawns : FnDef := ⟨2, 1, (.cons (.for [1] (.call .range1 (.cons (.attr (.var 0) 12) .nil)) (.cons (.expr (.append (.item (.attr (.var 0) 21) (.const (.int 0))) (.bin .band (.item (.attr (.var 0) 19) (.var 1)) (.bin .bor (.item (.item (.attr (.var 0) 18) (.const (.int 4))) (.var 1)) (.item (.item (.attr (.var 0) 18) (.const (.int 7))) (.var 1))))))
 (.cons (.expr (.append (.item (.attr (.var 0) 21) (.const (.int 1))) (.bin .band (.item (.attr (.var 0) 19) (.var 1)) (.bin .bor (.item (.item (.attr (.var 0) 18) (.const (.int 5))) (.var 1)) (.item (.item (.attr (.var 0) 18) (.const (.int 6))) (.var 1))))))
 .nil)))
 .nil)⟩
noncomputable def d_add_knights : FnDef := ⟨11, 1, (.cons (.assign 1 (.attr (.var 0) 10))
 (.cons (.assign 2 (.bin .band (.attr (.var 0) 13) (.inv (.item (.attr (.var 0) 16) (.const (.int 0))))))
 (.cons (.assign 3 (.bin .band (.attr (.var 0) 13) (.inv (.item (.attr (.var 0) 16) (.bin .sub (.var 1) (.const (.int 1)))))))
 (.cons (.assign 4 (.bin .band (.var 2) (.inv (.item (.attr (.var 0) 16) (.const (.int 1))))))
 (.cons (.assign 5 (.bin .band (.var 3) (.inv (.item (.attr (.var 0) 16) (.bin .sub (.var 1) (.const (.int 2)))))))
 (.cons (.for [6] (.call .range1 (.cons (.attr (.var 0) 12) .nil)) (.cons (.assign 7 (.bin .shl (.const (.int 1)) (.var 6)))
 (.cons (.assign 8 (.bin .bor (.bin .band (.bin .shl (.var 7) (.const (.int 1))) (.var 2)) (.bin .band (.bin .shr (.var 7) (.const (.int 1))) (.var 3))))
 (.cons (.assign 9 (.bin .bor (.bin .band (.bin .shl (.var 7) (.const (.int 2))) (.var 4)) (.bin .band (.bin .shr (.var 7) (.const (.int 2))) (.var 5))))
 (.cons (.assign 10 (.bin .bor (.bin .bor (.bin .bor (.bin .shl (.var 8) (.bin .mul (.const (.int 2)) (.var 1))) (.bin .shr (.var 8) (.bin .mul (.const (.int 2)) (.var 1)))) (.bin .shl (.var 9) (.var 1))) (.bin .shr (.var 9) (.var 1))))
 (.cons (.expr (.append (.attr (.var 0) 20) (.bin .band (.var 10) (.attr (.var 0) 13))))
 .nil))))))
 .nil))))))⟩
noncomputable def d_add_castles : FnDef := ⟨7, 1, (.cons (.setAttr (.var 0) 23 (.bin .mul (.list (.cons (.const (.int 0)) .nil)) (.attr (.var 0) 12)))
 (.cons (.assign 1 (.bin .fdiv (.attr (.var 0) 10) (.const (.int 2))))
 (.cons (.for [2] (.call .range1 (.cons (.const (.int 4)) .nil)) (.cons (.assign 3 (.bin .mul (.bin .mul (.bin .shr (.var 2) (.const (.int 1))) (.bin .sub (.attr (.var 0) 11) (.const (.int 1)))) (.attr (.var 0) 10)))
 (.cons (.assign 4 (.bin .sub (.attr (.var 0) 10) (.const (.int 1))))
 (.cons (.assign 5 (.const (.int 1)))
 (.cons (.ite (.bin .band (.var 2) (.const (.int 1))) (.cons (.assign 4 (.const (.int 0)))
 (.cons (.assign 5 (.neg (.const (.int 1))))
 .nil)) .nil)
 (.cons (.assign 6 (.bin .add (.var 1) (.bin .mul (.const (.int 2)) (.var 5))))
 (.cons (.ite (.and (.cons (.attr (.var 0) 15) (.cons (.cmp .gt (.bin .mul (.bin .sub (.var 4) (.var 6)) (.var 5)) (.const (.int 0))) .nil))) (.cons (.expr (.append (.attr (.var 0) 22) (.tuple (.cons (.bin .add (.var 3) (.var 1)) (.cons (.bin .add (.var 3) (.var 6)) (.cons (.bin .add (.var 3) (.var 4)) (.cons (.bin .sub (.bin .add (.var 3) (.var 6)) (.var 5)) .nil)))))))
 (.cons (.augItem (.attr (.var 0) 23) (.bin .add (.var 3) (.var 1)) .bor (.bin .shl (.const (.int 1)) (.var 2)))
 (.cons (.augItem (.attr (.var 0) 23) (.bin .add (.var 3) (.var 4)) .bor (.bin .shl (.const (.int 1)) (.var 2)))
 .nil))) (.cons (.expr (.append (.attr (.var 0) 22) (.const .none)))
 .nil))
 .nil)))))))
 .nil)))⟩
noncomputable def d_make_geometry : FnDef := ⟨5, 4, (.cons (.ite (.or (.cons (.cmp .lt (.var 0) (.const (.int 2))) (.cons (.cmp .gt (.var 0) (.const (.int 8))) (.cons (.cmp .lt (.var 1) (.const (.int 3))) (.cons (.cmp .gt (.var 1) (.const (.int 8))) .nil))))) (.cons .stop
 .nil) .nil)
 (.cons (.assign 4 (.call (.cls 1) (.cons (.var 0) (.cons (.var 1) (.cons (.var 2) (.cons (.var 3) .nil))))))
 (.cons (.expr (.call (.user 20) (.cons (.var 4) .nil)))
 (.cons (.expr (.call (.user 22) (.cons (.var 4) .nil)))
 (.cons (.expr (.call (.user 23) (.cons (.var 4) .nil)))
 (.cons (.expr (.call (.user 24) (.cons (.var 4) .nil)))
 (.cons (.expr (.call (.user 25) (.cons (.var 4) .nil)))
 (.cons (.ret (.var 4))
 .nil))))))))⟩
noncomputable def d_Position_init : FnDef := ⟨3, 3, (.cons (.setAttr (.var 0) 24 (.var 1))
 (.cons (.setAttr (.var 0) 25 (.var 2))
 (.cons (.setAttr (.var 0) 26 (.bin .mul (.list (.cons (.glob 3) .nil)) (.attr (.var 1) 12)))
 (.cons (.setAttr (.var 0) 27 (.bin .mul (.list (.cons (.const (.int 0)) .nil)) (.const (.int 7))))
 (.cons (.setAttr (.var 0) 28 (.list (.cons (.const (.int 0)) (.cons (.const (.int 0)) .nil))))
 (.cons (.setAttr (.var 0) 29 (.glob 0))
 (.cons (.setAttr (.var 0) 30 (.const (.int 0)))
 (.cons (.setAttr (.var 0) 31 (.neg (.const (.int 1))))
 (.cons (.setAttr (.var 0) 32 (.const (.int 0)))
 (.cons (.setAttr (.var 0) 13 (.const (.int 1)))
 (.cons (.setAttr (.var 0) 33 (.const (.int 0)))
 (.cons (.setAttr (.var 0) 34 (.list .nil))
 .nil))))))))))))⟩
noncomputable def d_law_bits : FnDef := ⟨10, 4, (.cons (.assign 4 (.bin .mul (.list (.cons (.const (.int 0)) .nil)) (.bin .mul (.var 0) (.var 1))))
 (.cons (.for [5, 6] (.var 3) (.cons (.assign 7 (.ite (.cmp .eq (.var 2) (.const (.int 0))) (.var 6) (.bin .sub (.bin .sub (.var 1) (.const (.int 1))) (.var 6))))
 (.cons (.setItem (.var 4) (.bin .add (.bin .mul (.var 7) (.var 0)) (.var 5)) (.const (.int 1)))
 .nil)))
 (.cons (.assign 8 (.const (.int 0)))
 (.cons (.for [9] (.call .range1 (.cons (.bin .mul (.var 0) (.var 1)) .nil)) (.cons (.aug 8 .add (.bin .shl (.item (.var 4) (.var 9)) (.var 9)))
 .nil))
 (.cons (.ret (.var 8))
 .nil)))))⟩
noncomputable def d_law_ahead : FnDef := ⟨9, 4, (.cons (.assign 4 (.list .nil))
 (.cons (.for [5, 6] (.var 2) (.cons (.for [7] (.tuple (.cons (.bin .sub (.var 5) (.const (.int 1))) (.cons (.bin .add (.var 5) (.const (.int 1))) .nil))) (.cons (.for [8] (.call .range2 (.cons (.bin .add (.var 6) (.const (.int 1))) (.cons (.call .min2 (.cons (.var 1) (.cons (.bin .add (.bin .add (.var 6) (.const (.int 1))) (.var 3)) .nil))) .nil))) (.cons (.ite (.cmp2 .le .lt (.const (.int 0)) (.var 7) (.var 0)) (.cons (.expr (.append (.var 4) (.tuple (.cons (.var 7) (.cons (.var 8) .nil)))))
 .nil) .nil)
 .nil))
 .nil))
 .nil))
 (.cons (.ret (.var 4))
 .nil)))⟩
noncomputable def d_law_pawn : FnDef := ⟨16, 4, (.cons (.assign 4 (.comp 2 [0] (.var 1) (.var 2) (.cons (.cmp .eq (.call .abs (.cons (.bin .sub (.var 0) (.var 2)) .nil)) (.const (.int 1))) .nil)))
 (.cons (.assign 5 (.comp 2 [1, 0] (.var 1) (.var 3) (.cons (.and (.cons (.cmp .eq (.call .abs (.cons (.bin .sub (.var 0) (.var 3)) .nil)) (.const (.int 1))) (.cons (.cmp .gt (.var 1) (.var 2)) .nil))) .nil)))
 (.cons (.assign 6 (.comp 1 [1] (.var 0) (.var 4) (.cons (.cmp .le (.var 0) (.var 1)) .nil)))
 (.cons (.assign 7 (.cmp .eq (.call .len (.cons (.var 4) .nil)) (.const (.int 0))))
 (.cons (.assign 8 (.cmp .gt (.call .len (.cons (.comp 2 [0, 1] (.var 1) (.var 2) (.cons (.and (.cons (.cmp .eq (.var 0) (.var 2)) (.cons (.cmp .gt (.var 1) (.var 3)) .nil))) .nil)) .nil)) (.const (.int 0))))
 (.cons (.assign 9 (.cmp .gt (.call .len (.cons (.comp 2 [0, 1] (.var 1) (.var 3) (.cons (.and (.cons (.cmp .eq (.var 0) (.var 2)) (.cons (.cmp .gt (.var 1) (.var 3)) .nil))) .nil)) .nil)) (.const (.int 0))))
 (.cons (.assign 10 (.or (.cons (.cmp .isin (.tuple (.cons (.var 0) (.cons (.bin .add (.var 1) (.const (.int 1))) .nil))) (.var 3)) (.cons (.cmp .isin (.tuple (.cons (.bin .sub (.var 0) (.const (.int 1))) (.cons (.bin .add (.var 1) (.const (.int 2))) .nil))) (.var 3)) (.cons (.cmp .isin (.tuple (.cons (.bin .add (.var 0) (.const (.int 1))) (.cons (.bin .add (.var 1) (.const (.int 2))) .nil))) (.var 3)) .nil)))))
 (.cons (.assign 11 (.and (.cons (.not (.var 7)) (.cons (.cmp .eq (.call .len (.cons (.var 6) .nil)) (.const (.int 0))) (.cons (.var 10) .nil)))))
 (.cons (.assign 12 (.or (.cons (.cmp .isin (.var 1) (.var 4)) (.cons (.cmp .isin (.bin .sub (.var 1) (.const (.int 1))) (.var 4)) .nil))))
 (.cons (.assign 13 (.and (.cons (.not (.var 8)) (.cons (.not (.var 9)) .nil))))
 (.cons (.assign 14 (.and (.cons (.var 13) (.cons (.cmp .eq (.call .len (.cons (.var 5) .nil)) (.const (.int 0))) .nil))))
 (.cons (.assign 15 (.and (.cons (.var 13) (.cons (.cmp .gt (.call .len (.cons (.var 5) .nil)) (.const (.int 0))) (.cons (.cmp .ge (.call .len (.cons (.var 6) .nil)) (.call .len (.cons (.var 5) .nil))) .nil)))))
 (.cons (.ret (.list (.cons (.var 7) (.cons (.var 8) (.cons (.var 11) (.cons (.var 12) (.cons (.var 9) (.cons (.var 14) (.cons (.var 15) .nil)))))))))
 .nil)))))))))))))⟩
noncomputable def d_law_score : FnDef := ⟨15, 4, (.cons (.assignTup [4, 5, 6, 7, 8, 9, 10] (.var 3))
 (.cons (.assign 11 (.ite (.var 8) (.const (.int 0)) (.const (.int 1))))
 (.cons (.assign 12 (.const (.int 0)))
 (.cons (.assign 13 (.const (.int 0)))
 (.cons (.ite (.var 7) (.cons (.assign 14 (.comp 2 [0] (.var 1) (.var 2) (.cons (.cmp .eq (.call .abs (.cons (.bin .sub (.var 0) (.var 2)) .nil)) (.const (.int 1))) .nil)))
 (.cons (.assign 12 (.bin .add (.bin .mul (.bin .add (.bin .mul (.const (.int 3)) (.var 1)) (.const (.int 2))) (.bin .add (.bin .add (.const (.int 1)) (.var 11)) (.call .min2 (.cons (.const (.int 1)) (.cons (.count (.var 14) (.var 1)) .nil))))) (.bin .mul (.const (.int 9)) (.count (.var 14) (.bin .sub (.var 1) (.const (.int 1)))))))
 (.cons (.assign 13 (.ite (.cmp .gt (.var 1) (.const (.int 1))) (.bin .fdiv (.bin .mul (.var 12) (.bin .sub (.var 1) (.const (.int 2)))) (.const (.int 4))) (.neg (.bin .fdiv (.var 12) (.const (.int 4))))))
 .nil))) .nil)
 (.cons (.ite (.var 4) (.cons (.assignTup [12, 13] (.tuple (.cons (.bin .sub (.bin .sub (.var 12) (.const (.int 5))) (.bin .mul (.const (.int 12)) (.var 11))) (.cons (.bin .sub (.bin .sub (.var 13) (.const (.int 15))) (.bin .mul (.const (.int 11)) (.var 11))) .nil))))
 .nil) .nil)
 (.cons (.ite (.var 6) (.cons (.assignTup [12, 13] (.tuple (.cons (.bin .sub (.bin .sub (.var 12) (.const (.int 9))) (.bin .mul (.const (.int 12)) (.var 11))) (.cons (.bin .sub (.bin .sub (.var 13) (.const (.int 24))) (.bin .mul (.const (.int 11)) (.var 11))) .nil))))
 .nil) .nil)
 (.cons (.ite (.var 5) (.cons (.assignTup [12, 13] (.tuple (.cons (.bin .sub (.var 12) (.const (.int 11))) (.cons (.bin .sub (.var 13) (.const (.int 50))) .nil))))
 .nil) .nil)
 (.cons (.ite (.var 9) (.cons (.assignTup [12, 13] (.tuple (.cons (.bin .add (.var 12) (.bin .mul (.bin .mul (.const (.int 4)) (.var 1)) (.var 1))) (.cons (.bin .add (.var 13) (.bin .mul (.bin .add (.bin .mul (.const (.int 6)) (.var 1)) (.const (.int 5))) (.var 1))) .nil))))
 .nil) .nil)
 (.cons (.ite (.var 10) (.cons (.assignTup [12, 13] (.tuple (.cons (.bin .add (.var 12) (.bin .mul (.const (.int 2)) (.var 1))) (.cons (.bin .add (.var 13) (.bin .mul (.const (.int 5)) (.var 1))) .nil))))
 .nil) .nil)
 (.cons (.ret (.bin .add (.var 12) (.bin .mul (.const (.int 65536)) (.var 13))))
 .nil)))))))))))⟩
noncomputable def d_law_seen : FnDef := ⟨8, 5, (.cons (.assign 5 (.list (.cons (.call (.user 28) (.cons (.var 0) (.cons (.var 1) (.cons (.var 2) (.cons (.var 3) .nil))))) (.cons (.call (.user 28) (.cons (.var 0) (.cons (.var 1) (.cons (.var 2) (.cons (.call (.user 29) (.cons (.var 0) (.cons (.var 1) (.cons (.var 3) (.cons (.const (.int 1)) .nil))))) .nil))))) (.cons (.call (.user 28) (.cons (.var 0) (.cons (.var 1) (.cons (.var 2) (.cons (.call (.user 29) (.cons (.var 0) (.cons (.var 1) (.cons (.var 3) (.cons (.var 1) .nil))))) .nil))))) .nil)))))
 (.cons (.assign 6 (.comp 2 [3, 4] (.tuple (.cons (.var 0) (.cons (.var 1) (.cons (.call (.user 30) (.cons (.var 0) (.cons (.var 1) (.cons (.var 2) (.cons (.var 3) .nil))))) .nil)))) (.var 3) .nil))
 (.cons (.for [7] (.call .range1 (.cons (.const (.int 7)) .nil)) (.cons (.expr (.append (.var 5) (.call (.user 28) (.cons (.var 0) (.cons (.var 1) (.cons (.var 2) (.cons (.comp 3 [7] (.tuple (.cons (.var 0) (.cons (.var 1) .nil))) (.var 6) (.cons (.item (.var 2) (.var 3)) .nil)) .nil)))))))
 .nil))
 (.cons (.expr (.append (.var 5) (.call .sum (.cons (.comp 3 [3] (.call (.user 31) (.cons (.var 0) (.cons (.var 1) (.cons (.var 3) (.cons (.var 2) .nil))))) (.var 6) .nil) .nil))))
 (.cons (.ret (.var 5))
 .nil)))))⟩
noncomputable def d_law_position : FnDef := ⟨4, 2, (.cons (.assign 2 (.call (.cls 2) (.cons (.var 0) (.cons (.const .none) .nil))))
 (.cons (.setAttr (.var 2) 26 (.var 1))
 (.cons (.for [3] (.call .range1 (.cons (.call .len (.cons (.var 1) .nil)) .nil)) (.cons (.ite (.item (.var 1) (.var 3)) (.cons (.augItem (.attr (.var 2) 27) (.bin .mod (.item (.var 1) (.var 3)) (.const (.int 8))) .bor (.bin .shl (.const (.int 1)) (.var 3)))
 (.cons (.augItem (.attr (.var 2) 28) (.bin .fdiv (.item (.var 1) (.var 3)) (.const (.int 8))) .bor (.bin .shl (.const (.int 1)) (.var 3)))
 .nil)) .nil)
 .nil))
 (.cons (.ret (.var 2))
 .nil))))⟩
noncomputable def d_law : FnDef := ⟨13, 1, (.cons (.while (.cmp .lt (.call .len (.cons (.var 1) .nil)) (.const (.int 2))) (.cons (.expr (.append (.var 1) (.const (.int 0))))
 .nil))
 (.cons (.assign 2 (.bin .add (.const (.int 2)) (.bin .mod (.item (.var 1) (.const (.int 0))) (.const (.int 7)))))
 (.cons (.assign 3 (.bin .add (.const (.int 3)) (.bin .mod (.item (.var 1) (.const (.int 1))) (.const (.int 6)))))
 (.cons (.assign 4 (.bin .mul (.list (.cons (.const (.int 0)) .nil)) (.bin .mul (.var 2) (.var 3))))
 (.cons (.setItem (.var 4) (.bin .mod (.bin .fdiv (.item (.var 1) (.const (.int 0))) (.const (.int 7))) (.var 2)) (.const (.int 6)))
 (.cons (.setItem (.var 4) (.bin .sub (.bin .sub (.bin .mul (.var 2) (.var 3)) (.const (.int 1))) (.bin .mod (.bin .fdiv (.item (.var 1) (.const (.int 1))) (.const (.int 6))) (.var 2))) (.const (.int 14)))
 (.cons (.for [5] (.bin .add (.list (.cons (.const (.int 5)) (.cons (.const (.int 2)) .nil))) (.sliceFrom (.var 1) 2)) (.cons (.setItem (.var 4) (.bin .add (.var 2) (.bin .mod (.bin .fdiv (.var 5) (.const (.int 2))) (.bin .mul (.var 2) (.bin .sub (.var 3) (.const (.int 2)))))) (.bin .add (.const (.int 1)) (.bin .mul (.bin .mod (.var 5) (.const (.int 2))) (.const (.int 8)))))
 .nil))
 (.cons (.assign 6 (.call (.user 33) (.cons (.call (.user 26) (.cons (.var 2) (.cons (.var 3) (.cons (.const (.bool false)) (.cons (.const (.bool false)) .nil))))) (.cons (.var 4) .nil))))
 (.cons (.for [7] (.tuple (.cons (.const (.int 0)) (.cons (.const (.int 1)) .nil))) (.cons (.assign 8 (.list (.cons (.list .nil) (.cons (.list .nil) .nil))))
 (.cons (.for [9] (.call .range1 (.cons (.bin .mul (.var 2) (.var 3)) .nil)) (.cons (.assign 10 (.ite (.cmp .eq (.var 7) (.const (.int 0))) (.bin .fdiv (.var 9) (.var 2)) (.bin .sub (.bin .sub (.var 3) (.const (.int 1))) (.bin .fdiv (.var 9) (.var 2)))))
 (.cons (.ite (.cmp .eq (.bin .mod (.item (.var 4) (.var 9)) (.const (.int 8))) (.const (.int 1))) (.cons (.expr (.append (.item (.var 8) (.bin .fdiv (.item (.var 4) (.var 9)) (.const (.int 8)))) (.tuple (.cons (.bin .mod (.var 9) (.var 2)) (.cons (.var 10) .nil)))))
 .nil) .nil)
 .nil)))
 (.cons (.assign 11 (.call (.user 14) (.cons (.var 6) (.cons (.var 7) .nil))))
 (.cons (.assign 12 (.list (.cons (.attr (.var 11) 0) (.cons (.attr (.var 11) 1) (.cons (.attr (.var 11) 2) (.cons (.attr (.var 11) 3) (.cons (.attr (.var 11) 4) (.cons (.attr (.var 11) 5) (.cons (.attr (.var 11) 6) (.cons (.attr (.var 11) 7) (.cons (.attr (.var 11) 8) (.cons (.attr (.var 11) 9) (.cons (.call (.user 17) (.cons (.var 6) (.cons (.var 7) .nil))) .nil)))))))))))))
 (.cons (.ite (.cmp .ne (.var 12) (.call (.user 32) (.cons (.var 2) (.cons (.var 3) (.cons (.var 7) (.cons (.item (.var 8) (.var 7)) (.cons (.item (.var 8) (.bin .sub (.const (.int 1)) (.var 7))) .nil))))))) (.cons (.ret (.const (.bool false)))
 .nil) .nil)
 .nil))))))
 (.cons (.ret (.const (.bool true)))
 .nil))))))))))⟩
noncomputable def fns : List FnDef := [d_count_bits, d_squares_of, d_own_rank, d_divide, d_make_score, d_PawnFacts_init, d_pawns_of, d_shift_up, d_neighbours, d_fill_up, d_front_span, d_attack_span, d_pawn_attacks, d_candidates_of, d_pawn_facts, d_connected_score, d_one_pawn_score, d_pawn_score, d_Geometry_init, d_is_growing, d_add_masks, d_inner_squares, d_add_rays, d_add_pawns, d_add_knights, d_add_castles, d_make_geometry, d_Position_init, d_law_bits, d_law_ahead, d_law_pawn, d_law_score, d_law_seen, d_law_position, d_law]
noncomputable def inits : List Nat := [5, 18, 27]
-- attributes: 0 own, 1 attacks, 2 span, 3 isolated, 4 doubled, 5 backward, 6 connected, 7 opposed, 8 passed, 9 candidates, 10 files, 11 ranks, 12 size, 13 full, 14 has_double, 15 has_castling, 16 file_masks, 17 rank_masks, 18 rays, 19 king, 20 knight, 21 pawn, 22 castles, 23 rights_lost, 24 geo, 25 zob, 26 board, 27 kinds, 28 sides, 29 side, 30 rights, 31 ep, 32 half, 33 key, 34 history
-- classes: 0 PawnFacts, 1 Geometry, 2 Position
end Mine
end

section
open PySem PySem.W PyProof.Rows
namespace Mine

structure Plc where
  a : Addr
  d : Addr
noncomputable abbrev Phi := List Plc

noncomputable def live : AObj → Bool
  | .dead => false
  | _ => true
noncomputable def Own (φ : Phi) (H : AH) (b : Addr) : Prop := ∃ (i : Nat) (sl : Plc) (o : AObj), φ[i]? = some sl ∧ H[i]? = some o ∧ live o = true ∧ (b = sl.a ∨ b = sl.d)

mutual
noncomputable def VRep (h : Heap) (φ : Phi) (own : Addr → Prop) : PV → Value → Prop
  | .none, v => v = .none
  | .bool b, v => v = .bool b
  | .int i, v => ∃ t, v = .int i t
  | .tup vs, v => ∃ a cvs, v = .ref a ∧ ¬ own a ∧ h.IsTuple a cvs.toArray ∧ VReps h φ own vs cvs
  | .lst vs, v => ∃ a cvs, v = .ref a ∧ ¬ own a ∧ h.PlainList a cvs.toArray ∧ VReps h φ own vs cvs
  | .rng x y z, v => ∃ a t u w, v = .ref a ∧ ¬ own a ∧ IsRange h a x y z t u w
  | .loc l, v => ∃ sl : Plc, φ[l]? = some sl ∧ v = .ref sl.a
noncomputable def VReps (h : Heap) (φ : Phi) (own : Addr → Prop) : List PV → List Value → Prop
  | [], cvs => cvs = []
  | v :: vs, cvs => ∃ c cs, cvs = c :: cs ∧ VRep h φ own v c ∧ VReps h φ own vs cs
end

noncomputable def frz (o : Obj) : Bool := match o.data with
  | .seq .. => true
  | .fields .. => o.cls == .type "range"
  | _ => false

mutual
theorem VRep.mono {h h' : Heap} {φ φ' : Phi} {own own' : Addr → Prop} (pre : ∀ (i : Nat) (sl : Plc), φ[i]? = some sl → φ'[i]? = some sl)
    (keep : ∀ b o, h.get? b = some o → ¬ own b → frz o = true → h'.get? b = some o) (ow : ∀ b o, h.get? b = some o → own' b → own b) :
    ∀ {v : PV} {c : Value}, VRep h φ own v c → VRep h' φ' own' v c
  | .none, _, x => by unfold VRep at x ⊢; exact x
  | .bool _, _, x => by unfold VRep at x ⊢; exact x
  | .int _, _, x => by unfold VRep at x ⊢; exact x
  | .tup vs, c, x => by
    unfold VRep at x ⊢
    obtain ⟨a, cvs, rfl, ha, ⟨o, ho, hc, n, hd⟩, hv⟩ := x
    exact ⟨a, cvs, rfl, fun q => ha (ow _ _ ho q), ⟨o, keep _ _ ho ha (by simp [frz, hd]), hc, n, hd⟩, VReps.mono pre keep ow hv⟩
  | .lst vs, c, x => by
    unfold VRep at x ⊢
    obtain ⟨a, cvs, rfl, ha, ⟨n, ho⟩, hv⟩ := x
    exact ⟨a, cvs, rfl, fun q => ha (ow _ _ ho q), ⟨n, keep _ _ ho ha (by simp [frz])⟩, VReps.mono pre keep ow hv⟩
  | .rng _ _ _, _, x => by
    unfold VRep at x ⊢
    obtain ⟨a, t, u, w, rfl, ha, ho⟩ := x
    exact ⟨a, t, u, w, rfl, fun q => ha (ow _ _ ho q), keep _ _ ho ha (by simp [frz])⟩
  | .loc _, _, x => by
    unfold VRep at x ⊢
    obtain ⟨sl, h1, h2⟩ := x
    exact ⟨sl, pre _ _ h1, h2⟩
theorem VReps.mono {h h' : Heap} {φ φ' : Phi} {own own' : Addr → Prop} (pre : ∀ (i : Nat) (sl : Plc), φ[i]? = some sl → φ'[i]? = some sl)
    (keep : ∀ b o, h.get? b = some o → ¬ own b → frz o = true → h'.get? b = some o) (ow : ∀ b o, h.get? b = some o → own' b → own b) :
    ∀ {vs : List PV} {cs : List Value}, VReps h φ own vs cs → VReps h' φ' own' vs cs
  | [], _, x => by unfold VReps at x ⊢; exact x
  | v :: vs, cs, x => by
    unfold VReps at x ⊢
    obtain ⟨c, cs, rfl, h1, h2⟩ := x
    exact ⟨c, cs, rfl, VRep.mono pre keep ow h1, VReps.mono pre keep ow h2⟩
end

section
variable {h : Heap} {φ : Phi} {own : Addr → Prop}
theorem VReps.nil : VReps h φ own [] [] := by unfold VReps; rfl
theorem VReps.cons {v : PV} {vs : List PV} {c : Value} {cs : List Value} (h1 : VRep h φ own v c) (h2 : VReps h φ own vs cs) : VReps h φ own (v :: vs) (c :: cs) := by
  unfold VReps; exact ⟨c, cs, rfl, h1, h2⟩
theorem VReps.nil_inv {cs : List Value} (x : VReps h φ own [] cs) : cs = [] := by unfold VReps at x; exact x
theorem VReps.cons_inv {v : PV} {vs : List PV} {cs : List Value} (x : VReps h φ own (v :: vs) cs) : ∃ c r, cs = c :: r ∧ VRep h φ own v c ∧ VReps h φ own vs r := by
  unfold VReps at x; exact x
theorem VReps.length : ∀ {vs : List PV} {cs : List Value}, VReps h φ own vs cs → cs.length = vs.length
  | [], _, x => by rw [x.nil_inv]; rfl
  | v :: vs, _, x => by obtain ⟨c, r, rfl, _, h2⟩ := x.cons_inv; simp [VReps.length h2]
theorem VReps.get : ∀ {vs : List PV} {cs : List Value}, VReps h φ own vs cs → ∀ {i : Nat} {v : PV}, vs[i]? = some v → ∃ c, cs[i]? = some c ∧ VRep h φ own v c
  | [], _, _, i, v, e => by simp at e
  | u :: vs, _, x, i, v, e => by
    obtain ⟨c, r, rfl, h1, h2⟩ := x.cons_inv
    cases i with
    | zero => simp at e; subst e; exact ⟨c, rfl, h1⟩
    | succ i => simp at e; obtain ⟨c', e', h'⟩ := VReps.get h2 e; exact ⟨c', by simpa using e', h'⟩
theorem VReps.append : ∀ {vs ws : List PV} {cs ds : List Value}, VReps h φ own vs cs → VReps h φ own ws ds → VReps h φ own (vs ++ ws) (cs ++ ds)
  | [], _, _, _, x, y => by rw [x.nil_inv]; exact y
  | v :: vs, _, _, _, x, y => by obtain ⟨c, r, rfl, h1, h2⟩ := x.cons_inv; exact .cons h1 (VReps.append h2 y)
theorem VReps.set : ∀ {vs : List PV} {cs : List Value}, VReps h φ own vs cs → ∀ {i : Nat} {v : PV} {c : Value}, VRep h φ own v c → VReps h φ own (vs.set i v) (cs.set i c)
  | [], _, x, i, v, c, y => by rw [x.nil_inv]; exact .nil
  | u :: vs, _, x, i, v, c, y => by
    obtain ⟨d, r, rfl, h1, h2⟩ := x.cons_inv
    cases i with
    | zero => exact .cons y h2
    | succ i => exact .cons h1 (VReps.set h2 y)
theorem VReps.drop : ∀ {vs : List PV} {cs : List Value}, VReps h φ own vs cs → ∀ n, VReps h φ own (vs.drop n) (cs.drop n)
  | [], _, x, n => by rw [x.nil_inv]; simp; exact .nil
  | u :: vs, _, x, n => by
    obtain ⟨d, r, rfl, h1, h2⟩ := x.cons_inv
    cases n with
    | zero => exact .cons h1 h2
    | succ n => exact VReps.drop h2 n
theorem VReps.replicate {v : PV} {c : Value} (x : VRep h φ own v c) : ∀ n, VReps h φ own (List.replicate n v) (List.replicate n c)
  | 0 => .nil
  | n + 1 => .cons x (VReps.replicate x n)
theorem VReps.ints : ∀ {vs : List PV} {cs : List Value} {is : List Int}, VReps h φ own vs cs → ints? vs = some is → IntsAre cs is
  | [], _, _, x, e => by rw [x.nil_inv]; cases e; constructor
  | v :: vs, _, is, x, e => by
    obtain ⟨c, r, rfl, h1, h2⟩ := x.cons_inv
    refine oi_el e fun i q e => oo_el e fun js e1 e2 => ?_
    subst q; cases e2
    unfold VRep at h1
    obtain ⟨t, rfl⟩ := h1
    constructor
    exact VReps.ints h2 e1
end

end Mine
end

section
open PySem PySem.W PyProof.Rows
namespace Mine

structure Tabs where
  B : Heap
  os : OsState
  N : Nms
  clss : List Addr
  fadr : List Addr
  globs : List PV
  K : Frag
  w : World

noncomputable def Tabs.attr (T : Tabs) (k : Nat) : Str := (T.N.attrs[k]?).getD Str.empty

noncomputable def FReps (T : Tabs) (h : Heap) (φ : List Plc) (own : Addr → Prop) : List (Nat × PV) → List DictEntry → Prop
  | [], es => es = []
  | (k, v) :: fs, es => ∃ hs t cv r, es = ⟨hs, .str (T.attr k) t, cv⟩ :: r ∧ k < T.N.attrs.length ∧ VRep h φ own v cv ∧ FReps T h φ own fs r

theorem FReps.mono {T : Tabs} {h h' : Heap} {φ φ' : List Plc} {own own' : Addr → Prop} (pre : ∀ (i : Nat) (sl : Plc), φ[i]? = some sl → φ'[i]? = some sl)
    (keep : ∀ b o, h.get? b = some o → ¬ own b → frz o = true → h'.get? b = some o) (ow : ∀ b o, h.get? b = some o → own' b → own b) :
    ∀ {fs : List (Nat × PV)} {es : List DictEntry}, FReps T h φ own fs es → FReps T h' φ' own' fs es
  | [], _, x => x
  | (_, _) :: _, _, ⟨hs, t, cv, r, e, hk, hv, x⟩ => ⟨hs, t, cv, r, e, hk, hv.mono pre keep ow, FReps.mono pre keep ow x⟩

noncomputable def ORep (T : Tabs) (h : Heap) (φ : List Plc) (own : Addr → Prop) (i : Nat) : AObj → Prop
  | .dead => True
  | .list vs => ∃ (a : Addr) (cvs : List Value), φ[i]? = some ⟨a, a⟩ ∧ h.PlainList a cvs.toArray ∧ VReps h φ own vs cvs
  | .inst c fs => ∃ (a d C : Addr) (es : List DictEntry) (n : Nat), φ[i]? = some ⟨a, d⟩ ∧ T.clss[c]? = some C ∧ h.get? a = some (instObj C d) ∧ h.get? d = some (dictOf es n) ∧ FReps T h φ own fs es

theorem ORep.mono {T : Tabs} {h h' : Heap} {φ φ' : List Plc} {own own' : Addr → Prop} (pre : ∀ (i : Nat) (sl : Plc), φ[i]? = some sl → φ'[i]? = some sl)
    (keep : ∀ b o, h.get? b = some o → ¬ own b → frz o = true → h'.get? b = some o) (ow : ∀ b o, h.get? b = some o → own' b → own b) {i : Nat} {o : AObj}
    (me : ∀ sl, φ[i]? = some sl → live o = true → ∀ b o', (b = sl.a ∨ b = sl.d) → h.get? b = some o' → h'.get? b = some o') (x : ORep T h φ own i o) : ORep T h' φ' own' i o := by
  cases o with
  | dead => trivial
  | list vs =>
    obtain ⟨a, cvs, h1, ⟨n, h2⟩, h3⟩ := x
    exact ⟨a, cvs, pre _ _ h1, ⟨n, me _ h1 rfl _ _ (.inl rfl) h2⟩, h3.mono pre keep ow⟩
  | inst c fs =>
    obtain ⟨a, d, C, es, n, h1, h2, h3, h4, h5⟩ := x
    exact ⟨a, d, C, es, n, pre _ _ h1, h2, me _ h1 rfl _ _ (.inl rfl) h3, me _ h1 rfl _ _ (.inr rfl) h4, h5.mono pre keep ow⟩

structure Rep (T : Tabs) (φ : List Plc) (H : AH) (s : Shared) : Prop where
  len : φ.length = H.length
  base : ∀ b o, T.B.get? b = some o → s.heap.get? b = some o
  gens : s.gens = #[]
  os : s.os = T.os
  objs : ∀ (i : Nat) (o : AObj), H[i]? = some o → ORep T s.heap φ (Own φ H) i o
  fresh : ∀ b, Own φ H b → T.B.get? b = none
  inj : ∀ (i j : Nat) (si sj : Plc) (oi oj : AObj), φ[i]? = some si → φ[j]? = some sj → H[i]? = some oi → H[j]? = some oj → live oi = true → live oj = true → i ≠ j →
    si.a ≠ sj.a ∧ si.a ≠ sj.d ∧ si.d ≠ sj.d

theorem Rep.at_live {T : Tabs} {φ : List Plc} {H : AH} {s : Shared} (R : Rep T φ H s) {i : Nat} {sl : Plc} {o : AObj} (h1 : φ[i]? = some sl) (h2 : H[i]? = some o) (h3 : live o = true) :
    (∃ o', s.heap.get? sl.a = some o') ∧ ∃ o', s.heap.get? sl.d = some o' := by
  have x := R.objs i o h2
  cases o with
  | dead => cases h3
  | list vs =>
    obtain ⟨a, cvs, e1, ⟨n, e2⟩, _⟩ := x
    rw [h1] at e1; cases e1
    exact ⟨⟨_, e2⟩, ⟨_, e2⟩⟩
  | inst c fs =>
    obtain ⟨a, d, C, es, n, e1, _, e3, e4, _⟩ := x
    rw [h1] at e1; cases e1
    exact ⟨⟨_, e3⟩, ⟨_, e4⟩⟩
theorem Rep.own_lt {T : Tabs} {φ : List Plc} {H : AH} {s : Shared} (R : Rep T φ H s) {b : Addr} (x : Own φ H b) : b < s.heap.objs.size := by
  obtain ⟨i, sl, o, h1, h2, h3, h4⟩ := x
  obtain ⟨⟨o1, e1⟩, ⟨o2, e2⟩⟩ := R.at_live h1 h2 h3
  rcases h4 with rfl | rfl
  · exact Heap.lt_size e1
  · exact Heap.lt_size e2

structure Step (X : Addr → Prop) (φ : List Plc) (H : AH) (h : Heap) (φ' : List Plc) (H' : AH) (h' : Heap) : Prop where
  pre : ∀ (i : Nat) (sl : Plc), φ[i]? = some sl → φ'[i]? = some sl
  keep : ∀ b o, h.get? b = some o → ¬ Own φ H b → (X b → frz o = true) → h'.get? b = some o
  own : ∀ b o, h.get? b = some o → Own φ' H' b → Own φ H b
  pres : ∀ b o, h.get? b = some o → ∃ o', h'.get? b = some o'

noncomputable def NoX : Addr → Prop := fun _ => False

theorem Step.refl (X : Addr → Prop) (φ : List Plc) (H : AH) (h : Heap) : Step X φ H h φ H h := ⟨fun _ _ e => e, fun _ _ e _ _ => e, fun _ _ _ x => x, fun _ o e => ⟨o, e⟩⟩
theorem Step.trans {X : Addr → Prop} {φ φ' φ'' : List Plc} {H H' H'' : AH} {h h' h'' : Heap} (x : Step X φ H h φ' H' h') (y : Step X φ' H' h' φ'' H'' h'') : Step X φ H h φ'' H'' h'' where
  pre := fun i sl e => y.pre i sl (x.pre i sl e)
  keep := fun b o e n f => y.keep b o (x.keep b o e n f) (fun q => n (x.own b o e q)) f
  own := fun b o e q => let ⟨o', e'⟩ := x.pres b o e; x.own b o e (y.own b o' e' q)
  pres := fun b o e => let ⟨o', e'⟩ := x.pres b o e; y.pres b o' e'
theorem Step.weaken {X Y : Addr → Prop} {φ φ' : List Plc} {H H' : AH} {h h' : Heap} (x : Step X φ H h φ' H' h') (hXY : ∀ b, X b → Y b) : Step Y φ H h φ' H' h' :=
  ⟨x.pre, fun b o e n f => x.keep b o e n (fun q => f (hXY b q)), x.own, x.pres⟩
theorem Step.noX {Y : Addr → Prop} {φ φ' : List Plc} {H H' : AH} {h h' : Heap} (x : Step NoX φ H h φ' H' h') : Step Y φ H h φ' H' h' := x.weaken fun _ f => f.elim
theorem Step.above {X : Addr → Prop} {φ φ' : List Plc} {H H' : AH} {h h₁ h' : Heap} (hk : ∀ b o, h.get? b = some o → h₁.get? b = some o)
    (hX : ∀ b, X b → h.get? b = none) (x : Step X φ H h₁ φ' H' h') : Step NoX φ H h φ' H' h' where
  pre := x.pre
  keep := fun b o e n _ => x.keep b o (hk b o e) n fun q => by rw [hX b q] at e; cases e
  own := fun b o e q => x.own b o (hk b o e) q
  pres := fun b o e => x.pres b o (hk b o e)

section
variable {T : Tabs} {X : Addr → Prop} {φ φ' : List Plc} {H H' : AH} {s s' : Shared} {h h' : Heap}

theorem Step.vrep (x : Step X φ H h φ' H' h') {v : PV} {c : Value} (y : VRep h φ (Own φ H) v c) : VRep h' φ' (Own φ' H') v c :=
  y.mono x.pre (fun b o e n f => x.keep b o e n fun _ => f) (fun b o e q => x.own b o e q)
theorem Step.vreps (x : Step X φ H h φ' H' h') {v : List PV} {c : List Value} (y : VReps h φ (Own φ H) v c) : VReps h' φ' (Own φ' H') v c :=
  y.mono x.pre (fun b o e n f => x.keep b o e n fun _ => f) (fun b o e q => x.own b o e q)

theorem Rep.change (R : Rep T φ H s) (hk : ∀ b o, s.heap.get? b = some o → (Own φ H b ∨ frz o = true ∨ T.B.get? b ≠ none) → s'.heap.get? b = some o) (hg : s'.gens = s.gens) (ho : s'.os = s.os) : Rep T φ H s' where
  len := R.len
  base := fun b o e => hk b o (R.base b o e) (.inr (.inr (by rw [e]; simp)))
  gens := hg.trans R.gens
  os := ho.trans R.os
  objs := fun i o e => (R.objs i o e).mono (fun _ _ e => e) (fun b o e _ f => hk b o e (.inr (.inl f))) (fun _ _ _ q => q)
    (fun sl h1 h2 b o' h3 h4 => hk b o' h4 (.inl ⟨i, sl, o, h1, e, h2, h3⟩))
  fresh := R.fresh
  inj := R.inj
theorem Rep.grow (R : Rep T φ H s) (hk : ∀ b o, s.heap.get? b = some o → h'.get? b = some o) (tk : Nat) : Rep T φ H { s with heap := h', toks := tk } :=
  R.change (fun b o e _ => hk b o e) rfl rfl
theorem Step.grow (hk : ∀ b o, h.get? b = some o → h'.get? b = some o) : Step X φ H h φ H h' :=
  ⟨fun _ _ e => e, fun b o e _ _ => hk b o e, fun _ _ _ q => q, fun b o e => ⟨o, hk b o e⟩⟩
theorem Rep.at1 (R : Rep T φ H s) {L : Addr} (hs : Heap.SameBut L s.heap h') (hL : ¬ Own φ H L) (hB : T.B.get? L = none) (hf : ∀ o, s.heap.get? L = some o → frz o = false) (tk : Nat) : Rep T φ H { s with heap := h', toks := tk } :=
  R.change (fun b o e c => (hs.2 b (by
    rintro rfl
    rcases c with c | c | c
    · exact hL c
    · rw [hf o e] at c; cases c
    · exact c hB)).trans e) rfl rfl
theorem Step.at1 {L : Addr} (hs : Heap.SameBut L h h') (hX : X L) (hf : ∀ o, h.get? L = some o → frz o = false) (hp : ∃ o', h'.get? L = some o') : Step X φ H h φ H h' :=
  ⟨fun _ _ e => e, fun b o e _ f => (hs.2 b (by rintro rfl; have := f hX; rw [hf o e] at this; cases this)).trans e, fun _ _ _ q => q, fun b o e => by
    by_cases hb : b = L
    · subst hb; exact hp
    · exact ⟨o, (hs.2 b hb).trans e⟩⟩

theorem Own.append_new {φ : List Plc} {H : AH} (hl : φ.length = H.length) {sl : Plc} {o : AObj} {b : Addr} (x : Own (φ ++ [sl]) (H ++ [o]) b) : Own φ H b ∨ (live o = true ∧ (b = sl.a ∨ b = sl.d)) := by
  obtain ⟨i, sl', o', h1, h2, h3, h4⟩ := x
  by_cases hi : i < φ.length
  · rw [List.getElem?_append_left hi] at h1
    rw [List.getElem?_append_left (hl ▸ hi)] at h2
    exact .inl ⟨i, sl', o', h1, h2, h3, h4⟩
  · rw [List.getElem?_append_right (Nat.le_of_not_lt hi)] at h1
    rw [List.getElem?_append_right (by lia)] at h2
    rw [hl] at h1
    cases hj : i - H.length with
    | zero => rw [hj] at h1 h2; simp at h1 h2; subst h1 h2; exact .inr ⟨h3, h4⟩
    | succ j => rw [hj] at h2; simp at h2
theorem Own.append_old {φ : List Plc} {H : AH} {ψ : List Plc} {J : AH} {b : Addr} (x : Own φ H b) : Own (φ ++ ψ) (H ++ J) b := by
  obtain ⟨i, sl', o', h1, h2, h3, h4⟩ := x
  have h1' := (List.getElem?_eq_some_iff.mp h1).1
  have h2' := (List.getElem?_eq_some_iff.mp h2).1
  exact ⟨i, sl', o', by rw [List.getElem?_append_left h1']; exact h1, by rw [List.getElem?_append_left h2']; exact h2, h3, h4⟩

theorem Rep.alloc (R : Rep T φ H s) {sl : Plc} {o : AObj} (hk : ∀ b o, s.heap.get? b = some o → h'.get? b = some o) (ha : s.heap.objs.size ≤ sl.a) (hd : s.heap.objs.size ≤ sl.d)
    (ho : ORep T h' (φ ++ [sl]) (Own (φ ++ [sl]) (H ++ [o])) H.length o) (tk : Nat) : Rep T (φ ++ [sl]) (H ++ [o]) { s with heap := h', toks := tk } := by
  have big : ∀ b, (b = sl.a ∨ b = sl.d) → s.heap.objs.size ≤ b := fun b q => by rcases q with rfl | rfl <;> assumption
  have hlt : ∀ b o', s.heap.get? b = some o' → ¬ (b = sl.a ∨ b = sl.d) := fun b o' e q => absurd (Heap.lt_size e) (Nat.not_lt.mpr (big b q))
  refine ⟨by simp [R.len], fun b o e => hk _ _ (R.base b o e), R.gens, R.os, ?_, ?_, ?_⟩
  · intro i o' e
    by_cases hi : i < H.length
    · rw [List.getElem?_append_left hi] at e
      have x := R.objs i o' e
      have hi' : i < φ.length := by rw [R.len]; exact hi
      refine x.mono (fun j sl' e' => ?_) (fun b o e _ _ => hk b o e) (fun b o e q => ?_) (fun sl' _ _ b o _ e => hk b o e)
      · rw [List.getElem?_append_left (List.getElem?_eq_some_iff.mp e').1]; exact e'
      · rcases q.append_new R.len with q | ⟨_, q⟩
        · exact q
        · exact absurd q (hlt _ _ e)
    · rw [List.getElem?_append_right (Nat.le_of_not_lt hi)] at e
      cases hj : i - H.length with
      | zero =>
        rw [hj] at e; simp at e; subst e
        have : i = H.length := by lia
        subst this; exact ho
      | succ j => rw [hj] at e; simp at e
  · intro b q
    rcases q.append_new R.len with q | ⟨_, q⟩
    · exact R.fresh b q
    · cases e : T.B.get? b with
      | none => rfl
      | some o' => exact absurd q (hlt _ _ (R.base _ _ e))
  · intro i j si sj oi oj e1 e2 e3 e4 l1 l2 hne
    have cs : ∀ (i : Nat) (si : Plc) (oi : AObj), (φ ++ [sl])[i]? = some si → (H ++ [o])[i]? = some oi → live oi = true →
        (φ[i]? = some si ∧ H[i]? = some oi ∧ si.a < s.heap.objs.size ∧ si.d < s.heap.objs.size) ∨ (i = H.length ∧ si = sl) := by
      intro i si oi e1 e3 l1
      by_cases hi : i < H.length
      · have hi' : i < φ.length := by rw [R.len]; exact hi
        rw [List.getElem?_append_left hi'] at e1
        rw [List.getElem?_append_left hi] at e3
        exact .inl ⟨e1, e3, R.own_lt ⟨i, si, oi, e1, e3, l1, .inl rfl⟩, R.own_lt ⟨i, si, oi, e1, e3, l1, .inr rfl⟩⟩
      · have hi' : ¬ i < φ.length := by rw [R.len]; exact hi
        rw [List.getElem?_append_right (Nat.le_of_not_lt hi')] at e1
        cases hj : i - φ.length with
        | zero => rw [hj] at e1; simp at e1; exact .inr ⟨by rw [R.len] at hj hi'; lia, e1.symm⟩
        | succ j => rw [hj] at e1; simp at e1
    rcases cs i si oi e1 e3 l1 with ⟨a1, a2, a3, a4⟩ | ⟨a1, a2⟩ <;> rcases cs j sj oj e2 e4 l2 with ⟨b1, b2, b3, b4⟩ | ⟨b1, b2⟩
    · exact R.inj i j si sj oi oj a1 b1 a2 b2 l1 l2 hne
    · subst b2; exact ⟨Nat.ne_of_lt (Nat.lt_of_lt_of_le a3 ha), Nat.ne_of_lt (Nat.lt_of_lt_of_le a3 hd), Nat.ne_of_lt (Nat.lt_of_lt_of_le a4 hd)⟩
    · subst a2; exact ⟨Nat.ne_of_gt (Nat.lt_of_lt_of_le b3 ha), Nat.ne_of_gt (Nat.lt_of_lt_of_le b4 ha), Nat.ne_of_gt (Nat.lt_of_lt_of_le b4 hd)⟩
    · lia
theorem Step.alloc (R : Rep T φ H s) {sl : Plc} {o : AObj} (hk : ∀ b o, s.heap.get? b = some o → h'.get? b = some o) (ha : s.heap.objs.size ≤ sl.a) (hd : s.heap.objs.size ≤ sl.d) :
    Step X φ H s.heap (φ ++ [sl]) (H ++ [o]) h' where
  pre := fun i sl' e => by rw [List.getElem?_append_left (List.getElem?_eq_some_iff.mp e).1]; exact e
  keep := fun b o e _ _ => hk b o e
  own := fun b o e q => by
    rcases q.append_new R.len with q | ⟨_, q⟩
    · exact q
    · rcases q with rfl | rfl
      · exact absurd (Heap.lt_size e) (Nat.not_lt.mpr ha)
      · exact absurd (Heap.lt_size e) (Nat.not_lt.mpr hd)
  pres := fun b o e => ⟨o, hk b o e⟩
end
end Mine

theorem Mine.Step.new1 {X : Addr → Prop} {φ φ' : List Mine.Plc} {H H' : Mine.AH} {h h' h'' : Heap} {I : Addr} (x : Mine.Step X φ H h φ' H' h') (hI : h.get? I = none) (he : Heap.ExtBut I h' h'') : Mine.Step X φ H h φ' H' h'' where
  pre := x.pre
  keep := fun b o e n f => he b o (by rintro rfl; rw [hI] at e; cases e) (x.keep b o e n f)
  own := x.own
  pres := fun b o e => let ⟨o', e'⟩ := x.pres b o e; ⟨o', he b o' (by rintro rfl; rw [hI] at e; cases e) e'⟩
end

section
open PySem PySem.W PyProof.Rows
namespace Mine
section
variable {T : Tabs} {X : Addr → Prop} {φ φ' : List Plc} {H H' : AH} {s s' : Shared} {h h' : Heap}

theorem Own.set {φ : List Plc} {H : AH} {l : Nat} {o o' : AObj} (e : H[l]? = some o) (hl : live o' = live o) {b : Addr} : Own φ (H.set l o') b ↔ Own φ H b := by
  have hlt := (List.getElem?_eq_some_iff.mp e).1
  constructor
  · rintro ⟨i, sl, o1, h1, h2, h3, h4⟩
    by_cases hi : i = l
    · subst hi
      rw [List.getElem?_set_self hlt] at h2; cases h2
      exact ⟨i, sl, o, h1, e, hl ▸ h3, h4⟩
    · rw [List.getElem?_set_ne (Ne.symm hi)] at h2
      exact ⟨i, sl, o1, h1, h2, h3, h4⟩
  · rintro ⟨i, sl, o1, h1, h2, h3, h4⟩
    by_cases hi : i = l
    · subst hi
      rw [e] at h2; cases h2
      exact ⟨i, sl, o', h1, List.getElem?_set_self hlt, hl ▸ h3, h4⟩
    · exact ⟨i, sl, o1, h1, by rw [List.getElem?_set_ne (Ne.symm hi)]; exact h2, h3, h4⟩
theorem Own.set_dead {φ : List Plc} {H : AH} {l : Nat} {b : Addr} (x : Own φ (H.set l .dead) b) : Own φ H b := by
  obtain ⟨i, sl, o1, h1, h2, h3, h4⟩ := x
  by_cases hi : i = l
  · subst hi
    by_cases hlt : i < H.length
    · rw [List.getElem?_set_self hlt] at h2; cases h2; cases h3
    · rw [List.getElem?_eq_none (by simp; lia)] at h2; cases h2
  · rw [List.getElem?_set_ne (Ne.symm hi)] at h2
    exact ⟨i, sl, o1, h1, h2, h3, h4⟩

theorem get_set {α : Type} {l : List α} {i j : Nat} {x y : α} (h : (l.set i x)[j]? = some y) : (j = i ∧ y = x) ∨ (j ≠ i ∧ l[j]? = some y) := by
  by_cases hi : j = i
  · subst hi
    by_cases hlt : j < l.length
    · rw [List.getElem?_set_self hlt] at h; cases h; exact .inl ⟨rfl, rfl⟩
    · rw [List.getElem?_eq_none (by simp; lia)] at h; cases h
  · rw [List.getElem?_set_ne (Ne.symm hi)] at h; exact .inr ⟨hi, h⟩

theorem Rep.turn (R : Rep T φ H s) {l : Nat} {sl : Plc} {o o' : AObj} (h1 : φ[l]? = some sl) (h2 : H[l]? = some o) (h3 : live o = true) (h3' : live o' = true)
    (hs : ∀ b o, b ≠ sl.a → b ≠ sl.d → s.heap.get? b = some o → (Own φ H b ∨ frz o = true ∨ T.B.get? b ≠ none) → h'.get? b = some o) (hn : ORep T h' φ (Own φ H) l o')  (tk : Nat) : Rep T φ (H.set l o') { s with heap := h', toks := tk } := by
  have hown : ∀ b, Own φ (H.set l o') b ↔ Own φ H b := fun b => Own.set h2 (by rw [h3, h3'])
  have hmine : ∀ b, (b = sl.a ∨ b = sl.d) → Own φ H b := fun b q => ⟨l, sl, o, h1, h2, h3, q⟩
  have keep : ∀ b o, s.heap.get? b = some o → ¬ Own φ H b → (frz o = true ∨ T.B.get? b ≠ none) → h'.get? b = some o := fun b o e n c =>
    hs b o (fun q => n (hmine b (.inl q))) (fun q => n (hmine b (.inr q))) e (.inr c)
  refine ⟨by simp [R.len], ?_, R.gens, R.os, ?_, ?_, ?_⟩
  · intro b o1 e
    exact keep b o1 (R.base b o1 e) (fun q => by rw [R.fresh b q] at e; cases e) (.inr (by rw [e]; simp))
  · intro i o1 e
    rcases get_set e with ⟨rfl, rfl⟩ | ⟨hi, e⟩
    · exact hn.mono (fun _ _ e => e) (fun _ _ e _ _ => e) (fun b _ _ q => (hown b).mp q) (fun _ _ _ _ _ _ e => e)
    · refine (R.objs i o1 e).mono (fun _ _ e => e) (fun b o e n f => keep b o e n (.inl f)) (fun b _ _ q => (hown b).mp q) ?_
      intro si hsi hl b o2 hb e2
      obtain ⟨q1, q2, q3⟩ := R.inj i l si sl o1 o hsi h1 e h2 hl h3 hi
      obtain ⟨q4, q5, q6⟩ := R.inj l i sl si o o1 h1 hsi h2 e h3 hl (Ne.symm hi)
      refine hs b o2 ?_ ?_ e2 (.inl ⟨i, si, o1, hsi, e, hl, hb⟩)
      · rcases hb with rfl | rfl
        · exact q1
        · exact Ne.symm q5
      · rcases hb with rfl | rfl
        · exact q2
        · exact q3
  · exact fun b q => R.fresh b ((hown b).mp q)
  · intro i j si sj oi oj e1 e2 e3 e4 l1 l2 hne
    have back : ∀ (i : Nat) (oi : AObj), (H.set l o')[i]? = some oi → live oi = true → ∃ oi', H[i]? = some oi' ∧ live oi' = true := by
      intro i oi e hl
      rcases get_set e with ⟨rfl, rfl⟩ | ⟨_, e⟩
      · exact ⟨o, h2, h3⟩
      · exact ⟨oi, e, hl⟩
    obtain ⟨oi', f1, f2⟩ := back i oi e3 l1
    obtain ⟨oj', f3, f4⟩ := back j oj e4 l2
    exact R.inj i j si sj oi' oj' e1 e2 f1 f3 f2 f4 hne
theorem Step.turn {l : Nat} {sl : Plc} {o o' : AObj} (h1 : φ[l]? = some sl) (h2 : H[l]? = some o) (h3 : live o = true) (h3' : live o' = true)
    (hs : ∀ b o, h.get? b = some o → ¬ Own φ H b → (X b → frz o = true) → h'.get? b = some o) (hp : ∀ b o, h.get? b = some o → ∃ o', h'.get? b = some o') : Step X φ H h φ (H.set l o') h' where
  pre := fun _ _ e => e
  keep := hs
  own := fun b _ _ q => (Own.set h2 (by rw [h3, h3'])).mp q
  pres := hp

theorem Rep.setList (R : Rep T φ H s) {l : Nat} {a : Addr} {vs vs' : List PV} {cvs : List Value} (h1 : φ[l]? = some ⟨a, a⟩) (h2 : H[l]? = some (.list vs)) (hs : Heap.SameBut a s.heap h')
    (hp : h'.PlainList a cvs.toArray) (hv : VReps s.heap φ (Own φ H) vs' cvs) (tk : Nat) : Rep T φ (H.set l (.list vs')) { s with heap := h', toks := tk } := by
  refine R.turn (o' := .list vs') h1 h2 rfl rfl (fun b _ q _ e _ => (hs.2 b q).trans e) (show ORep T h' φ (Own φ H) l (.list vs') from ⟨a, cvs, h1, hp, hv.mono (fun _ _ e => e) (fun b o e n _ => ?_) (fun _ _ _ q => q)⟩) tk
  exact (hs.2 b (fun q => n ⟨l, _, _, h1, h2, rfl, .inl q⟩)).trans e
theorem Step.setList {l : Nat} {a : Addr} {vs vs' : List PV} (h1 : φ[l]? = some ⟨a, a⟩) (h2 : H[l]? = some (.list vs)) (hs : Heap.SameBut a h h') (hp : ∃ o, h'.get? a = some o) : Step X φ H h φ (H.set l (.list vs')) h' :=
  Step.turn h1 h2 rfl rfl (fun b o e n _ => (hs.2 b (fun q => n ⟨l, _, _, h1, h2, rfl, .inl q⟩)).trans e) fun b o e => by
    by_cases q : b = a
    · subst q; exact hp
    · exact ⟨o, (hs.2 b q).trans e⟩

theorem Rep.setInst (R : Rep T φ H s) {l c : Nat} {a d C : Addr} {fs fs' : List (Nat × PV)} {es : List DictEntry} {n : Nat} (h1 : φ[l]? = some ⟨a, d⟩) (h2 : H[l]? = some (.inst c fs)) (hC : T.clss[c]? = some C) (hne : a ≠ d) (hs : Heap.SameBut d s.heap h')
    (ha : s.heap.get? a = some (instObj C d)) (hp : h'.get? d = some (dictOf es n)) (hv : FReps T s.heap φ (Own φ H) fs' es) (tk : Nat) : Rep T φ (H.set l (.inst c fs')) { s with heap := h', toks := tk } := by
  refine R.turn (o' := .inst c fs') h1 h2 rfl rfl (fun b _ _ q e _ => (hs.2 b q).trans e) (show ORep T h' φ (Own φ H) l (.inst c fs') from ⟨a, d, C, es, n, h1, hC, (hs.2 a hne).trans ha, hp, hv.mono (fun _ _ e => e) (fun b o e n _ => ?_) (fun _ _ _ q => q)⟩) tk
  exact (hs.2 b (fun q => n ⟨l, _, _, h1, h2, rfl, .inr q⟩)).trans e
theorem Step.setInst {l c : Nat} {a d : Addr} {fs fs' : List (Nat × PV)} (h1 : φ[l]? = some ⟨a, d⟩) (h2 : H[l]? = some (.inst c fs)) (hs : Heap.SameBut d h h') (hp : ∃ o, h'.get? d = some o) : Step X φ H h φ (H.set l (.inst c fs')) h' :=
  Step.turn h1 h2 rfl rfl (fun b o e n _ => (hs.2 b (fun q => n ⟨l, _, _, h1, h2, rfl, .inr q⟩)).trans e) fun b o e => by
    by_cases q : b = d
    · subst q; exact hp
    · exact ⟨o, (hs.2 b q).trans e⟩

theorem Rep.freeze (R : Rep T φ H s) {l : Nat} : Rep T φ (H.set l .dead) s where
  len := by simp [R.len]
  base := R.base
  gens := R.gens
  os := R.os
  objs := fun i o e => by
    rcases get_set e with ⟨rfl, rfl⟩ | ⟨_, e⟩
    · trivial
    · exact (R.objs i o e).mono (fun _ _ e => e) (fun _ _ e _ _ => e) (fun _ _ _ q => q.set_dead) (fun _ _ _ _ _ _ e => e)
  fresh := fun b q => R.fresh b q.set_dead
  inj := fun i j si sj oi oj e1 e2 e3 e4 l1 l2 hne => by
    rcases get_set e3 with ⟨rfl, rfl⟩ | ⟨_, e3⟩
    · cases l1
    rcases get_set e4 with ⟨rfl, rfl⟩ | ⟨_, e4⟩
    · cases l2
    exact R.inj i j si sj oi oj e1 e2 e3 e4 l1 l2 hne
theorem Step.freeze {l : Nat} : Step X φ H h φ (H.set l .dead) h := ⟨fun _ _ e => e, fun _ _ e _ _ => e, fun _ _ _ q => q.set_dead, fun _ o e => ⟨o, e⟩⟩
theorem VRep.freeze (R : Rep T φ H s) {l : Nat} {vs : List PV} {c : Value} (e : H[l]? = some (.list vs)) (x : VRep s.heap φ (Own φ H) (.loc l) c) : VRep s.heap φ (Own φ (H.set l .dead)) (.lst vs) c := by
  unfold VRep at x ⊢
  obtain ⟨sl, h1, rfl⟩ := x
  obtain ⟨a, cvs, e1, hp, hv⟩ := R.objs l _ e
  rw [h1] at e1; cases e1
  refine ⟨a, cvs, rfl, ?_, hp, hv.mono (fun _ _ e => e) (fun _ _ e _ _ => e) (fun _ _ _ q => q.set_dead)⟩
  rintro ⟨i, sl', o', f1, f2, f3, f4⟩
  rcases get_set f2 with ⟨rfl, rfl⟩ | ⟨hi, f2⟩
  · cases f3
  · obtain ⟨q1, q2, q3⟩ := R.inj i l sl' ⟨a, a⟩ o' _ f1 h1 f2 e f3 rfl hi
    rcases f4 with f4 | f4
    · exact q1 f4.symm
    · exact q3 f4.symm

theorem Rep.list_at (R : Rep T φ H s) {l : Nat} {vs : List PV} (e : H[l]? = some (.list vs)) : ∃ (a : Addr) (cvs : List Value), φ[l]? = some ⟨a, a⟩ ∧ s.heap.PlainList a cvs.toArray ∧ VReps s.heap φ (Own φ H) vs cvs := R.objs l _ e
theorem Rep.items (R : Rep T φ H s) {v : PV} {vs : List PV} {c : Value} (e : items H v = some vs) (x : VRep s.heap φ (Own φ H) v c) :
    ∃ (a : Addr) (cvs : List Value), c = .ref a ∧ s.heap.PlainList a cvs.toArray ∧ VReps s.heap φ (Own φ H) vs cvs := by
  cases v with
  | lst ws =>
    simp [Mine.items] at e; subst e
    unfold VRep at x
    obtain ⟨a, cvs, rfl, _, h1, h2⟩ := x
    exact ⟨a, cvs, rfl, h1, h2⟩
  | loc l =>
    simp only [Mine.items] at e
    split at e
    · rename_i ws q
      cases e
      obtain ⟨a, cvs, h1, h2, h3⟩ := R.list_at q
      unfold VRep at x
      obtain ⟨sl, e1, rfl⟩ := x
      rw [h1] at e1; cases e1
      exact ⟨a, cvs, rfl, h2, h3⟩
    · cases e
  | _ => simp [Mine.items] at e
theorem Rep.newList (R : Rep T φ H s) {vs : List PV} {cvs : List Value} (hv : VReps s.heap φ (Own φ H) vs cvs) (tk : Nat) :
    Rep T (φ ++ [⟨s.heap.objs.size, s.heap.objs.size⟩]) (H ++ [.list vs]) { s with heap := s.heap.push { cls := .type "list", data := .seq cvs.toArray }, toks := tk } ∧
    Step X φ H s.heap (φ ++ [⟨s.heap.objs.size, s.heap.objs.size⟩]) (H ++ [.list vs]) (s.heap.push { cls := .type "list", data := .seq cvs.toArray }) := by
  have hk : ∀ b o, s.heap.get? b = some o → (s.heap.push { cls := .type "list", data := .seq cvs.toArray }).get? b = some o := fun b o e => Heap.get?_push_of_some _ e
  have S : Step X φ H s.heap (φ ++ [⟨s.heap.objs.size, s.heap.objs.size⟩]) (H ++ [.list vs]) (s.heap.push { cls := .type "list", data := .seq cvs.toArray }) :=
    Step.alloc R hk (Nat.le_refl _) (Nat.le_refl _)
  refine ⟨R.alloc (sl := ⟨s.heap.objs.size, s.heap.objs.size⟩) (o := .list vs) hk (Nat.le_refl _) (Nat.le_refl _) (show ∃ (a : Addr) (cvs' : List Value), _ from ⟨_, cvs, ?_, ⟨0, Heap.get?_push_size _ rfl⟩, S.vreps hv⟩) tk, S⟩
  rw [List.getElem?_append_right (Nat.le_of_eq R.len), R.len]; simp
theorem VRep.newLoc (R : Rep T φ H s) {h' : Heap} {own : Addr → Prop} {a : Addr} : VRep h' (φ ++ [⟨a, a⟩]) own (.loc H.length) (.ref a) := by
  unfold VRep
  refine ⟨⟨a, a⟩, ?_, rfl⟩
  rw [List.getElem?_append_right (Nat.le_of_eq R.len), R.len]; simp
end
end Mine
end

section
open PySem PySem.W PyProof.Rows
namespace Mine

structure EnvOk (T : Tabs) (env : PySem.Env) (vars : List Str) : Prop where
  kind : env.scope.kind = .function
  glob : env.globals = mainGlobals
  blt : env.builtins = builtinsNs
  nd : vars.Nodup
  vk : ∀ x ∈ vars, (x == ("__debug__" : Str)) = false ∧ (env.kindOf x = some .local ∨ (env.kindOf x = some .cell ∧ ∃ c, env.cells.lookup x = some c))
  locB : T.B.get? env.locals = none
  cellB : ∀ x c, env.cells.lookup x = some c → T.B.get? c = none
  apart : ∀ x y c, env.cells.lookup x = some c → env.cells.lookup y = some c → x = y
  ca : ∀ x, env.kindOf x = some .cell → ∃ c, env.cells.lookup x = some c

structure Frame (φ : List Plc) (H : AH) (h : Heap) (env : PySem.Env) (vars : List Str) (ρ : Vars) : Prop where
  len : ρ.length = vars.length
  own : ¬ Own φ H env.locals
  ns : ∃ m, h.Ns env.locals m ∧ ∀ (i : Nat) (x : Str) (v : PV), vars[i]? = some x → env.kindOf x = some .local → ρ[i]? = some (some v) → ∃ cv, m x = some cv ∧ VRep h φ (Own φ H) v cv
  cells : ∀ x c, env.cells.lookup x = some c → ∃ ov, h.IsCell c ov ∧ ∀ (i : Nat) (v : PV), vars[i]? = some x → env.kindOf x = some .cell → ρ[i]? = some (some v) → ∃ cv, ov = some cv ∧ VRep h φ (Own φ H) v cv

noncomputable def XOf (env : PySem.Env) : Addr → Prop := fun b => b = env.locals ∨ ∃ x, env.cells.lookup x = some b

theorem ns_data {h : Heap} {a : Addr} {m : Str → Option Value} (x : h.Ns a m) : ∃ o es n, h.get? a = some o ∧ o.data = .dict es n := by
  obtain ⟨o, es, ep, e, d, _⟩ := x; exact ⟨o, es, ep, e, d⟩
theorem ns_frz {h : Heap} {a : Addr} {m : Str → Option Value} (x : h.Ns a m) : ∀ o, h.get? a = some o → frz o = false := by
  obtain ⟨o, es, n, e, d⟩ := ns_data x
  intro o' e'; rw [e] at e'; cases e'; simp [frz, d]
theorem cell_frz {h : Heap} {a : Addr} {v : Option Value} (x : h.IsCell a v) : ∀ o, h.get? a = some o → frz o = false := by
  obtain ⟨o, e, d⟩ := x
  intro o' e'; rw [e] at e'; cases e'; simp [frz, d]

section
variable {T : Tabs} {X : Addr → Prop} {φ φ' : List Plc} {H H' : AH} {s s' : Shared} {h h' : Heap} {env : PySem.Env} {vars : List Str} {ρ : Vars}

theorem Rep.cell_not_own (R : Rep T φ H s) {c : Addr} {v : Option Value} (x : s.heap.IsCell c v) : ¬ Own φ H c := by
  rintro ⟨i, sl, o, h1, h2, h3, h4⟩
  obtain ⟨oc, e, d⟩ := x
  have y := R.objs i o h2
  cases o with
  | dead => cases h3
  | list vs =>
    obtain ⟨a, cvs, e1, ⟨n, e2⟩, _⟩ := y
    rw [h1] at e1; cases e1
    rcases h4 with rfl | rfl <;> (rw [e] at e2; cases e2; cases d)
  | inst k fs =>
    obtain ⟨a, dd, C, es, n, e1, _, e3, e4, _⟩ := y
    rw [h1] at e1; cases e1
    rcases h4 with rfl | rfl
    · rw [e] at e3; cases e3; cases d
    · rw [e] at e4; cases e4; cases d

theorem Frame.step (R : Rep T φ H s) (F : Frame φ H s.heap env vars ρ) (S : Step X φ H s.heap φ' H' h') (hX : ∀ b, XOf env b → ¬ X b) : Frame φ' H' h' env vars ρ := by
  obtain ⟨m, hn, hm⟩ := F.ns
  obtain ⟨o, es, n, e, d⟩ := ns_data hn
  refine ⟨F.len, fun q => F.own (S.own _ o e q), ⟨m, ?_, fun i x v h1 h2 h3 => ?_⟩, fun x c hc => ?_⟩
  · exact hn.at' fun o' e' => S.keep _ _ e' F.own fun q => absurd q (hX _ (.inl rfl))
  · obtain ⟨cv, h4, h5⟩ := hm i x v h1 h2 h3
    exact ⟨cv, h4, S.vrep h5⟩
  · obtain ⟨ov, hcell, hv⟩ := F.cells x c hc
    have hno := R.cell_not_own hcell
    refine ⟨ov, ?_, fun i v h1 h2 h3 => ?_⟩
    · obtain ⟨oc, e1, e2⟩ := hcell
      exact ⟨oc, S.keep _ _ e1 hno fun q => absurd q (hX _ (.inr ⟨x, hc⟩)), e2⟩
    · obtain ⟨cv, h4, h5⟩ := hv i v h1 h2 h3
      exact ⟨cv, h4, S.vrep h5⟩
theorem Frame.step0 (R : Rep T φ H s) (F : Frame φ H s.heap env vars ρ) (S : Step NoX φ H s.heap φ' H' h') : Frame φ' H' h' env vars ρ := F.step R S fun _ _ q => q

variable {M : Model} {A : Around} {E : Value → Shared → Prop}
theorem load_var {Q : Value → Shared → Prop} (K : EnvOk T env vars) (F : Frame φ H s.heap env vars ρ) {i : Nat} {x : Str} {v : PV} (hx : vars[i]? = some x) (hv : ρ[i]? = some (some v))
    (h : ∀ cv, VRep s.heap φ (Own φ H) v cv → Q cv s) : wpAny M A (loadName env x) Q E s := by
  rcases (K.vk x (List.mem_of_getElem? hx)).2 with hk | ⟨hk, c, hc⟩
  · obtain ⟨m, hn, hm⟩ := F.ns
    obtain ⟨cv, h1, h2⟩ := hm i x v hx hk hv
    exact wpAny_loadName_local K.kind hk hn h1 (h cv h2)
  · obtain ⟨ov, h1, h2⟩ := F.cells x c hc
    obtain ⟨cv, rfl, h3⟩ := h2 i v hx hk hv
    exact wpAny_loadName_cell K.kind hk hc h1 (h cv h3)

theorem vars_inj (K : EnvOk T env vars) {i j : Nat} {x : Str} (hi : vars[i]? = some x) (hj : vars[j]? = some x) : i = j := by
  obtain ⟨li, ei⟩ := List.getElem?_eq_some_iff.mp hi
  obtain ⟨lj, ej⟩ := List.getElem?_eq_some_iff.mp hj
  exact (List.getElem_inj K.nd).mp (ei.trans ej.symm)

theorem store_var {Q : Unit → Shared → Prop} (K : EnvOk T env vars) (R : Rep T φ H s) (F : Frame φ H s.heap env vars ρ) {i : Nat} {x : Str} {v : PV} {cv : Value} (hx : vars[i]? = some x)
    (hv : VRep s.heap φ (Own φ H) v cv) (hXL : X env.locals) (hXC : ∀ c, env.kindOf x = some .cell → env.cells.lookup x = some c → X c)
    (h : ∀ s', Rep T φ H s' → Frame φ H s'.heap env vars (ρ.set i (some v)) → Step X φ H s.heap φ H s'.heap → Q () s') : wpAny M A (storeName env x cv) Q E s := by
  have hlt : i < ρ.length := by rw [F.len]; exact (List.getElem?_eq_some_iff.mp hx).1
  rcases (K.vk x (List.mem_of_getElem? hx)).2 with hk | ⟨hk, c, hc⟩
  · obtain ⟨m, hn, hm⟩ := F.ns
    refine wpAny_storeName_local hk hn (fun h' hn' hs' => ?_) (by rw [K.kind]; rfl)
    have S : Step X φ H s.heap φ H h' := Step.at1 hs' hXL (ns_frz hn) (by obtain ⟨o, _, _, e, _⟩ := ns_data hn'; exact ⟨o, e⟩)
    refine h _ (R.at1 hs' F.own K.locB (ns_frz hn) _) ⟨by simp [F.len], F.own, ⟨_, hn', fun j y u h1 h2 h3 => ?_⟩, fun y d hd => ?_⟩ S
    · rcases get_set h3 with ⟨rfl, e⟩ | ⟨hj, h3⟩
      · cases e
        rw [hx] at h1; cases h1
        exact ⟨cv, by simp, S.vrep hv⟩
      · obtain ⟨cu, e1, e2⟩ := hm j y u h1 h2 h3
        have hne : y ≠ x := by rintro rfl; exact hj (vars_inj K h1 hx)
        exact ⟨cu, by simp [hne, e1], S.vrep e2⟩
    · obtain ⟨ov, h1, h2⟩ := F.cells y d hd
      have hne : d ≠ env.locals := by
        rintro rfl
        obtain ⟨o, _, _, e, dd⟩ := ns_data hn
        obtain ⟨o', e', dd'⟩ := h1
        rw [e] at e'; cases e'; rw [dd] at dd'; cases dd'
      refine ⟨ov, h1.sameBut hs' hne, fun j u g1 g2 g3 => ?_⟩
      rcases get_set g3 with ⟨rfl, e⟩ | ⟨hj, g3⟩
      · rw [hx] at g1; cases g1; rw [hk] at g2; cases g2
      · obtain ⟨cu, e1, e2⟩ := h2 j u g1 g2 g3
        exact ⟨cu, e1, S.vrep e2⟩
  · obtain ⟨m, hn, hm⟩ := F.ns
    obtain ⟨ov, h1, h2⟩ := F.cells x c hc
    refine wpAny_storeName_cell K.kind hk hc h1 fun h' hc' hs' => ?_
    have hno := R.cell_not_own h1
    have S : Step X φ H s.heap φ H h' := Step.at1 hs' (hXC c hk hc) (cell_frz h1) (by obtain ⟨o, e, _⟩ := hc'; exact ⟨o, e⟩)
    have hne : env.locals ≠ c := by
      rintro rfl
      obtain ⟨o, _, _, e, dd⟩ := ns_data hn
      obtain ⟨o', e', dd'⟩ := h1
      rw [e] at e'; cases e'; rw [dd] at dd'; cases dd'
    have R' : Rep T φ H { s with heap := h', toks := s.toks } := R.at1 hs' hno (K.cellB x c hc) (cell_frz h1) _
    refine h _ R' ⟨by simp [F.len], F.own, ⟨m, hn.sameBut hs' hne, fun j y u g1 g2 g3 => ?_⟩, fun y d hd => ?_⟩ S
    · rcases get_set g3 with ⟨rfl, e⟩ | ⟨hj, g3⟩
      · rw [hx] at g1; cases g1; rw [hk] at g2; cases g2
      · obtain ⟨cu, e1, e2⟩ := hm j y u g1 g2 g3
        exact ⟨cu, e1, S.vrep e2⟩
    · by_cases hy : y = x
      · subst hy
        rw [hc] at hd; cases hd
        refine ⟨_, hc', fun j u g1 g2 g3 => ?_⟩
        have := vars_inj K g1 hx
        subst this
        rw [List.getElem?_set_self hlt] at g3
        cases g3
        exact ⟨cv, rfl, S.vrep hv⟩
      · obtain ⟨ov', k1, k2⟩ := F.cells y d hd
        have hdc : d ≠ c := fun q => hy (K.apart y x c (q ▸ hd) hc)
        refine ⟨ov', k1.sameBut hs' hdc, fun j u g1 g2 g3 => ?_⟩
        rcases get_set g3 with ⟨rfl, e⟩ | ⟨hj, g3⟩
        · rw [hx] at g1; cases g1; exact absurd rfl hy
        · obtain ⟨cu, e1, e2⟩ := k2 j u g1 g2 g3
          exact ⟨cu, e1, S.vrep e2⟩
end
end Mine
end

section
set_option maxRecDepth 100000
open PySem PySem.W PyProof.Rows
namespace Mine

noncomputable def Post (T : Tabs) (X : Addr → Prop) (φ : List Plc) (H : AH) (s : Shared) (v : PV) (H' : AH) : Value → Shared → Prop :=
  fun cv s' => ∃ φ', Rep T φ' H' s' ∧ Step X φ H s.heap φ' H' s'.heap ∧ VRep s'.heap φ' (Own φ' H') v cv

section
variable {T : Tabs} {X : Addr → Prop} {φ φ' : List Plc} {H H' : AH} {s s' : Shared} {prog : Program} {w : World} {A : Around} {E : Value → Shared → Prop}

theorem Rep.toks (R : Rep T φ H s) (tk : Nat) : Rep T φ H { s with toks := tk } := R.grow (fun _ _ e => e) tk
theorem Post.int (R : Rep T φ H s) (i : Int) (t tk : Nat) : Post T X φ H s (.int i) H (.int i t) { s with toks := tk } :=
  ⟨φ, R.toks tk, Step.refl .., by unfold VRep; exact ⟨t, rfl⟩⟩
theorem Post.bool (R : Rep T φ H s) (b : Bool) : Post T X φ H s (.bool b) H (.bool b) s := ⟨φ, R, Step.refl .., by unfold VRep; rfl⟩
theorem Post.grown (R : Rep T φ H s) {h' : Heap} (hk : ∀ b o, s.heap.get? b = some o → h'.get? b = some o) (i : Int) (t tk : Nat) : Post T X φ H s (.int i) H (.int i t) { s with heap := h', toks := tk } :=
  ⟨φ, R.grow hk tk, Step.grow hk, by unfold VRep; exact ⟨t, rfl⟩⟩
theorem Rep.push_list (R : Rep T φ H s) {vs : List PV} {cvs : List Value} (hv : VReps s.heap φ (Own φ H) vs cvs) (tk : Nat) :
    Post T X φ H s (.loc H.length) (H ++ [.list vs]) (.ref s.heap.objs.size) { s with heap := s.heap.push { cls := .type "list", data := .seq cvs.toArray }, toks := tk } := by
  obtain ⟨h1, h2⟩ := R.newList (X := X) hv tk
  exact ⟨_, h1, h2, VRep.newLoc R⟩
theorem not_own_size (R : Rep T φ H s) : ¬ Own φ H s.heap.objs.size := fun q => Nat.lt_irrefl _ (R.own_lt q)
theorem Rep.push_lst (R : Rep T φ H s) {vs : List PV} {cvs : List Value} (hv : VReps s.heap φ (Own φ H) vs cvs) (tk : Nat) :
    Post T X φ H s (.lst vs) H (.ref s.heap.objs.size) { s with heap := s.heap.push { cls := .type "list", data := .seq cvs.toArray }, toks := tk } := by
  have S : Step X φ H s.heap φ H (s.heap.push { cls := .type "list", data := .seq cvs.toArray }) := Step.grow fun _ _ e => Heap.get?_push_of_some _ e
  refine ⟨φ, R.grow (fun _ _ e => Heap.get?_push_of_some _ e) tk, S, ?_⟩
  unfold VRep
  exact ⟨_, cvs, rfl, not_own_size R, ⟨0, Heap.get?_push_size _ rfl⟩, S.vreps hv⟩
theorem Rep.push_tup (R : Rep T φ H s) {vs : List PV} {cvs : List Value} (hv : VReps s.heap φ (Own φ H) vs cvs) (tk : Nat) :
    Post T X φ H s (.tup vs) H (.ref s.heap.objs.size) { s with heap := s.heap.push { cls := .type "tuple", data := .seq cvs.toArray }, toks := tk } := by
  have S : Step X φ H s.heap φ H (s.heap.push { cls := .type "tuple", data := .seq cvs.toArray }) := Step.grow fun _ _ e => Heap.get?_push_of_some _ e
  refine ⟨φ, R.grow (fun _ _ e => Heap.get?_push_of_some _ e) tk, S, ?_⟩
  unfold VRep
  exact ⟨_, cvs, rfl, not_own_size R, ⟨_, Heap.get?_push_size _ rfl, rfl, 0, rfl⟩, S.vreps hv⟩
theorem VRep.int_inv {h : Heap} {φ : List Plc} {own : Addr → Prop} {i : Int} {c : Value} (x : VRep h φ own (.int i) c) : ∃ t, c = .int i t := by unfold VRep at x; exact x
theorem VRep.bool_inv {h : Heap} {φ : List Plc} {own : Addr → Prop} {b : Bool} {c : Value} (x : VRep h φ own (.bool b) c) : c = .bool b := by unfold VRep at x; exact x
theorem VRep.none_inv {h : Heap} {φ : List Plc} {own : Addr → Prop} {c : Value} (x : VRep h φ own .none c) : c = .none := by unfold VRep at x; exact x
theorem VRep.none' {h : Heap} {φ : List Plc} {own : Addr → Prop} : VRep h φ own .none .none := by unfold VRep; rfl
theorem VRep.bool' {h : Heap} {φ : List Plc} {own : Addr → Prop} {b : Bool} : VRep h φ own (.bool b) (.bool b) := by unfold VRep; rfl
theorem VRep.int' {h : Heap} {φ : List Plc} {own : Addr → Prop} {i : Int} {t : Tok} : VRep h φ own (.int i) (.int i t) := by unfold VRep; exact ⟨t, rfl⟩

theorem small_nat {a : Int} (h : small a = true) : a.natAbs < 2 ^ 64 := by
  unfold small big at h
  rw [Bool.and_eq_true] at h
  have h1 := of_decide_eq_true h.1
  have h2 := of_decide_eq_true h.2
  lia
theorem mul_ok {a b : Int} (h : (small a || small b) = true) : IntMulOk a b := by
  rcases Bool.or_eq_true _ _ ▸ h with h | h
  · exact IntMulOk.of_left (intBits_le (small_nat h))
  · exact IntMulOk.of_right (intBits_le (small_nat h))

theorem nz_of {b : Int} (h : (!decide (b = 0)) = true) : b ≠ 0 := of_decide_eq_false (Bool.not_eq_true' _ ▸ h)
theorem mulList {l : Addr} {c : Value} {k : Nat} {x : Int} {u : Tok} {Q : Value → Shared → Prop} (hl : s.heap.get? l = some { cls := .type "list", dict := none, data := .seq [c].toArray k, slots := #[] })
    (h0 : 0 ≤ x) (h1 : x ≤ 1000) (h : Q (.ref s.heap.objs.size) { s with heap := s.heap.push { cls := .type "list", data := .seq (List.replicate x.toNat c).toArray } }) :
    wpAny (model prog w) A (binaryOp .Mult (.ref l) (.int x u)) Q E s := by
  have e : (List.foldl (fun x1 x2 => x1 ++ x2) #[] (List.replicate (if ([c].toArray).isEmpty = true then 0 else x.toNat) [c].toArray)) = (List.replicate x.toNat c).toArray := by
    rw [listMul_foldl_if, lm_rep_flat_one]
  have e1 : ([c].toArray).size * x.toNat = x.toNat := by rw [List.size_toArray]; simp
  have hA : ¬ (([c].toArray).size * x.toNat > (2 ^ 63 - 1) / 8) := by rw [e1]; lia
  have hC : ¬ Builtin.List.listTooLong (([c].toArray).size * x.toNat) = true := by
    rw [e1]; unfold Builtin.List.listTooLong; rw [yy6, sizeLine_eq]; lia
  have hF : ¬ (!Builtin.List.listFitsIndex x) = true := by simp [Builtin.List.listFitsIndex]; lia
  refine wpAny_binaryOp_repeat_ref (T := "list") (U := "int") (by decide) ⟨_, hl, rfl⟩ (fun s' => typeIs_int s' x u) noFill_list_mul F.fills_int_mul F.slot_int_rmul repeat_list F.slot_int_index.lookup
    (call_meets F.slot_int_rmul (typeIs_int s x u) F.entry_int_rmul (F.args_int_rmul_2 _ _) (int___rmul___int_list x u l [c].toArray k)
      ⟨hl, rfl, ⟨_, hl, rfl⟩, call_meets F.slot_list_mul ⟨_, hl, rfl⟩ F.entry_list_mul (F.args_list_mul_2 _ _)
        (AutoListH.list___mul___list_int_3 l [c].toArray k x u hF hA hC)
        ⟨hl, ?_⟩⟩)
  rw [e]
  exact h

@[elab_as_elim] theorem VRep.int_el {P : Value → Prop} {h : Heap} {φ : List Plc} {own : Addr → Prop} {i : Int} {c : Value} (x : VRep h φ own (.int i) c) (k : ∀ t, P (.int i t)) : P c := by
  obtain ⟨t, rfl⟩ := x.int_inv; exact k t
@[elab_as_elim] theorem Rep.items_el {P : Value → Prop} (R : Rep T φ H s) {v : PV} {vs : List PV} {c : Value} (e : Mine.items H v = some vs) (x : VRep s.heap φ (Own φ H) v c)
    (k : ∀ a cvs, s.heap.PlainList a cvs.toArray → VReps s.heap φ (Own φ H) vs cvs → P (.ref a)) : P c := by
  obtain ⟨a, cvs, rfl, h1, h2⟩ := R.items e x; exact k a cvs h1 h2
theorem binI_ok {o : Bop} {op : Operator} {a b : Int} {t u : Tok} {v : PV} (e : binI H o a b = some (v, H')) (ho : ckOp o op = true) (R : Rep T φ H s) :
    wpAny (model prog w) A (binaryOp op (.int a t) (.int b u)) (Post T X φ H s v H') E s := by
  cases of_decide_eq_true ho
  cases o with
  | add => exact sm_el e (add_int (Post.int R _ _ _))
  | sub => exact sm_el e (sub_int (Post.int R _ _ _))
  | mul => exact og_el e fun hs e => sm_el e (mul_int (Post.int R _ _ _) (mul_ok hs))
  | fdiv => exact og_el e fun hs e => and_el hs fun h1 h2 => sm_el e (floordiv_int (nz_of h1) (Post.int R _ _ _) (Or.inl (PyProof.noPylong_small (of_decide_eq_true h2))))
  | mod => exact og_el e fun hs e => and_el hs fun h1 _ => sm_el e (mod_int' (nz_of h1) (Post.int R _ _ _))
  | shl => exact og_el e fun hs e => and_el hs fun h1 h2 => and_el h1 fun h1 h3 => sm_el e (lshift_int_small (of_decide_eq_true h1) (of_decide_eq_true h3) (small_nat h2) (Post.int R _ _ _))
  | shr => exact og_el e fun hs e => sm_el e (rshift_int (of_decide_eq_true hs) (Post.int R _ _ _))
  | band => exact sm_el e (and_int (Post.int R _ _ _))
  | bor => exact sm_el e (or_int (Post.int R _ _ _))
theorem addL_ok {x y v : PV} {cx cy : Value} (e : addL H x y = some (v, H')) (R : Rep T φ H s) (hx : VRep s.heap φ (Own φ H) x cx) (hy : VRep s.heap φ (Own φ H) y cy) :
    wpAny (model prog w) A (binaryOp .Add cx cy) (Post T X φ H s v H') E s := by
  refine oo_el e fun a ha e => oo_el e fun b hb e => og_el e fun hl e => sm_el e ?_
  refine R.items_el ha hx fun l cs h1 h2 => R.items_el hb hy fun m ds h3 h4 => ?_
  obtain ⟨n, h1⟩ := h1
  obtain ⟨k, h3⟩ := h3
  refine P.add_list h1 h3 (by simpa using R.push_lst (X := X) (h2.append h4) s.toks) (by rw [sizeLine_eq, List.size_toArray, List.size_toArray, h2.length, h4.length]; have := of_decide_eq_true hl; omega)
theorem mulL_ok {x y v : PV} {cx cy : Value} (e : mulL H x y = some (v, H')) (R : Rep T φ H s) (hx : VRep s.heap φ (Own φ H) x cx) (hy : VRep s.heap φ (Own φ H) y cy) :
    wpAny (model prog w) A (binaryOp .Mult cx cy) (Post T X φ H s v H') E s := by
  refine ol_el e fun l hl e => oi_el e fun n hn e => oL_el e fun vs hvs e => o1_el e fun vv hvv e => og_el e fun hs e => sm_el e ?_
  subst hl hn hvv
  refine hy.int_el fun t => ?_
  obtain ⟨a, cvs, h1, ⟨k, h2⟩, h3⟩ := R.list_at hvs
  unfold VRep at hx
  obtain ⟨sl, e1, rfl⟩ := hx
  rw [h1] at e1; cases e1
  obtain ⟨c, r, rfl, h4, h5⟩ := h3.cons_inv
  rw [h5.nil_inv] at h2
  exact and_el hs fun k1 k2 => mulList h2 (of_decide_eq_true k1) (of_decide_eq_true k2) (R.push_list (X := X) (VReps.replicate h4 _) s.toks)
theorem binO_ok {o : Bop} {op : Operator} {x y v : PV} {cx cy : Value} (e : binO H o x y = some (v, H')) (ho : ckOp o op = true) (R : Rep T φ H s) (hx : VRep s.heap φ (Own φ H) x cx) (hy : VRep s.heap φ (Own φ H) y cy) :
    wpAny (model prog w) A (binaryOp op cx cy) (Post T X φ H s v H') E s := by
  cases of_decide_eq_true ho
  cases o with
  | add => exact addL_ok e R hx hy
  | mul => exact mulL_ok e R hx hy
  | _ => exact nse e
theorem binop_ok {o : Bop} {op : Operator} {x y v : PV} {cx cy : Value} (e : binop H o x y = some (v, H')) (ho : ckOp o op = true) (R : Rep T φ H s) (hx : VRep s.heap φ (Own φ H) x cx) (hy : VRep s.heap φ (Own φ H) y cy) :
    wpAny (model prog w) A (binaryOp op cx cy) (Post T X φ H s v H') E s :=
  oe_el e (fun _ ha e => oe_el e (fun _ hb e => (asI_of ha ▸ hx : VRep s.heap φ (Own φ H) (.int _) cx).int_el fun _ => (asI_of hb ▸ hy : VRep s.heap φ (Own φ H) (.int _) cy).int_el fun _ => binI_ok e ho R) fun e => binO_ok e ho R hx hy) fun e => binO_ok e ho R hx hy
end
end Mine
end

section
set_option maxRecDepth 100000
open PySem PySem.W PyProof.Rows
namespace Mine
section
variable {T : Tabs} {X : Addr → Prop} {φ φ' : List Plc} {H H' : AH} {s s' : Shared} {prog : Program} {w : World} {A : Around} {E : Value → Shared → Prop}

theorem inplace_ok {o : Bop} {op : Operator} {a b : Int} {t u : Tok} {v : PV} (e : binI H o a b = some (v, H')) (ho : ckOp o op = true) (R : Rep T φ H s) :
    wpAny (model prog w) A (inplaceOp op (.int a t) (.int b u)) (Post T X φ H s v H') E s := by
  cases of_decide_eq_true ho
  cases o with
  | add => exact sm_el e (iadd_int (Post.int R _ _ _))
  | sub => exact sm_el e (isub_int (Post.int R _ _ _))
  | mul => exact og_el e fun hs e => sm_el e (imul_int (Post.int R _ _ _) (mul_ok hs))
  | fdiv => exact og_el e fun hs e => and_el hs fun h1 h2 => sm_el e (ifloordiv_int (nz_of h1) (Post.int R _ _ _) (Or.inl (PyProof.noPylong_small (of_decide_eq_true h2))))
  | mod => exact og_el e fun hs e => and_el hs fun h1 h2 => sm_el e (imod_int (nz_of h1) (Post.int R _ _ _))
  | shl => exact og_el e fun hs e => and_el hs fun h1 h2 => and_el h1 fun h1 h3 => sm_el e (ilshift_int_small (of_decide_eq_true h1) (of_decide_eq_true h3) (small_nat h2) (Post.int R _ _ _))
  | shr => exact og_el e fun hs e => sm_el e (irshift_int (of_decide_eq_true hs) (Post.int R _ _ _))
  | band => exact sm_el e (iand_int (Post.int R _ _ _))
  | bor => exact sm_el e (ior_int (Post.int R _ _ _))

theorem truthy_ok {v : PV} {c : Value} {b : Bool} {Q : Bool → Shared → Prop} (e : truthy v = some b) (hv : VRep s.heap φ (Own φ H) v c) (h : Q b s) : wpAny (model prog w) A (PySem.truthy c) Q E s := by
  cases v with
  | none => rw [hv.none_inv]; cases e; exact truthy_none h
  | bool x => rw [hv.bool_inv]; cases e; exact wpAny_truthy_bool h
  | int i =>
    refine hv.int_el fun t => truthy_int ?_
    cases e
    have : (i != 0) = decide (i ≠ 0) := by
      by_cases hi : i = 0 <;> simp [hi]
    rw [this]; exact h
  | _ => cases e

theorem pair_inv {v : PV} {p : Int × Int} (e : pair? v = some p) : v = .tup [.int p.1, .int p.2] := by
  cases v with
  | tup vs =>
    refine oc_el (vs := vs) e fun u r h1 e => o1_el e fun v h2 e => oi_el e fun i h3 e => oi_el e fun j h4 e => ?_
    cases e
    rw [h1, h2, h3, h4]
  | _ => cases e
theorem pair_reads {h : Heap} {φ : List Plc} {own : Addr → Prop} {c : Value} {i j : Int} (x : VRep h φ own (.tup [.int i, .int j]) c) : ∃ a, Reads h c (PyData.tuple [.int i, .int j]) a := by
  unfold VRep at x
  obtain ⟨a, cvs, rfl, _, ⟨o, k1, k2, n, k3⟩, h4⟩ := x
  obtain ⟨c1, r1, rfl, g1, g2⟩ := h4.cons_inv
  obtain ⟨c2, r2, rfl, g3, g4⟩ := g2.cons_inv
  obtain ⟨t1, rfl⟩ := g1.int_inv
  obtain ⟨t2, rfl⟩ := g3.int_inv
  rw [g4.nil_inv] at k3
  exact ⟨_, .tuple k1 k2 k3 (.cons (.int _ _) (.cons (.int _ _) .nil))⟩
theorem pairs_reads {φ : List Plc} {own : Addr → Prop} : ∀ {vs : List PV} {cs : List Value} {ps : List (Int × Int)}, VReps s.heap φ own vs cs → pairs? vs = some ps →
    ∃ as, ReadsAll s.heap cs (ps.map fun p => PyData.tuple [.int p.1, .int p.2]) as
  | [], _, ps, x, e => by rw [x.nil_inv]; cases e; exact ⟨_, .nil⟩
  | v :: vs, _, ps, x, e => by
    obtain ⟨c, r, rfl, h1, h2⟩ := x.cons_inv
    refine oo_el e fun p q e => oo_el e fun qs e1 e => ?_
    cases e
    obtain ⟨as, h3⟩ := pairs_reads h2 e1
    obtain ⟨a, h4⟩ := pair_reads (pair_inv q ▸ h1)
    exact ⟨_, .cons h4 h3⟩

theorem pairs_can : ∀ ps : List (Int × Int), PyData.canLayAll0 (ps.map fun p => PyData.tuple [.int p.1, .int p.2]) = true
  | [] => rfl
  | p :: ps => by simp [PyData.canLayAll0, PyData.canLay0, pairs_can ps]
theorem pairs_depth : ∀ ps : List (Int × Int), PyData.depthAll (ps.map fun p => PyData.tuple [.int p.1, .int p.2]) ≤ 2
  | [] => by simp [PyData.depthAll]
  | p :: ps => by
    have := pairs_depth ps
    simp only [List.map_cons, PyData.depthAll, PyData.depth]
    lia
theorem pairs_any (i j : Int) : ∀ ps : List (Int × Int), ((ps.map fun p => PyData.tuple [.int p.1, .int p.2]).any fun y => PyData.eqv y (.tuple [.int i, .int j])) = decide ((i, j) ∈ ps)
  | [] => rfl
  | p :: ps => by
    rw [List.map_cons, List.any_cons, pairs_any i j ps]
    obtain ⟨a, b⟩ := p
    simp only [PyData.eqv, PyData.eqvAll, Bool.and_true]
    rw [Bool.eq_iff_iff]
    simp only [Bool.or_eq_true, Bool.and_eq_true, beq_iff_eq, yy6, List.mem_cons, Prod.mk.injEq]
    constructor
    · rintro (⟨rfl, rfl⟩ | h)
      · exact .inl ⟨rfl, rfl⟩
      · exact .inr h
    · rintro (⟨rfl, rfl⟩ | h)
      · exact .inl ⟨rfl, rfl⟩
      · exact .inr h

theorem beq_dec (a b : Int) : (a == b) = decide (a = b) := by by_cases q : a = b <;> simp [q]
theorem cmpI_ok {o : Cop} {op : CmpOp} {a b : Int} {t u : Tok} {r : Bool} {Q : Value → Shared → Prop} (e : cmpI o a b = some r) (ho : ckC o op = true) (h : Q (.bool r) s) :
    wpAny (model prog w) A (compareOp op (.int a t) (.int b u)) Q E s := by
  cases of_decide_eq_true ho
  revert h
  cases o with
  | lt => exact so_el e fun h => lt_int h
  | gt => exact so_el e fun h => gt_int h
  | le => exact so_el e fun h => le_int h
  | ge => exact so_el e fun h => ge_int h
  | eq => exact so_el e fun h => eq_int ((beq_dec a b).symm ▸ h)
  | ne => exact so_el e fun h => ne_int ((show (a != b) = !decide (a = b) from congrArg not (beq_dec a b)).symm ▸ h)
  | isin => exact nse e
theorem neO_ok {x y : PV} {cx cy : Value} {r : Bool} {Q : Value → Shared → Prop} (e : neO H x y = some r) (R : Rep T φ H s)
    (hx : VRep s.heap φ (Own φ H) x cx) (hy : VRep s.heap φ (Own φ H) y cy) (hu : A.units + 100 < cLine) (h : Q (.bool r) s) : wpAny (model prog w) A (compareOp .NotEq cx cy) Q E s := by
  revert h
  refine oe_el e (fun a ha e => oo_el e fun b hb e => so_el e fun h => ?_) fun e => oo_el e fun a ha e => oo_el e fun b hb e => oo_el e fun is hi e => oo_el e fun js hj e => og_el e fun hl e => so_el e fun h => ?_
  · cases asB_of ha; cases asB_of hb
    rw [hx.bool_inv, hy.bool_inv]; exact ne_bool h
  · refine R.items_el ha hx fun l cs h1 h2 => R.items_el hb hy fun m ds h3 h4 => ?_
    exact ne_intsK h1.isList (h2.ints hi) h3.isList (h4.ints hj) (by have := of_decide_eq_true hl; omega) h
theorem inO_ok {x y : PV} {cx cy : Value} {r : Bool} {Q : Value → Shared → Prop} (e : inO H x y = some r) (R : Rep T φ H s)
    (hx : VRep s.heap φ (Own φ H) x cx) (hy : VRep s.heap φ (Own φ H) y cy) (hu : A.units + 100 < cLine) (h : Q (.bool r) s) : wpAny (model prog w) A (compareOp .In cx cy) Q E s := by
  revert h
  refine oo_el e fun a ha e => R.items_el ha hy fun l cs h1 h2 => oe_el e (fun i hi e => oo_el e fun is hj e => so_el e fun h => ?_) fun e => oo_el e fun p hp e => oo_el e fun ps hj e => so_el e fun h => ?_
  · refine (asI_of hi ▸ hx : VRep s.heap φ (Own φ H) (.int i) cx).int_el fun t => in_list_ints h1.isList (h2.ints hj) ?_
    have : (is.any fun x => x == i) = decide (i ∈ is) := by
      rw [Bool.eq_iff_iff, List.any_eq_true]
      simp
    rw [this]; exact h
  · obtain ⟨n, h1⟩ := h1
    obtain ⟨as, h3⟩ := pairs_reads h2 hj
    obtain ⟨b, h4⟩ := pair_reads (pair_inv hp ▸ hx)
    refine SeqAt.in_list_reads (Reads.list h1 rfl rfl (by simpa using h3)) h4 (pairs_can ps) (by simp [PyData.canLay0, PyData.canLayAll0]) ?_ (by rw [pairs_any]; exact h)
    have := pairs_depth ps
    have := Nat.min_le_left (PyData.depthAll (ps.map fun p => PyData.tuple [.int p.1, .int p.2])) (PyData.depth (.tuple [.int p.1, .int p.2]))
    omega
theorem cmpO_ok {o : Cop} {op : CmpOp} {x y : PV} {cx cy : Value} {r : Bool} {Q : Value → Shared → Prop} (e : cmpO H o x y = some r) (ho : ckC o op = true) (R : Rep T φ H s)
    (hx : VRep s.heap φ (Own φ H) x cx) (hy : VRep s.heap φ (Own φ H) y cy) (hu : A.units + 100 < cLine) (h : Q (.bool r) s) : wpAny (model prog w) A (compareOp op cx cy) Q E s := by
  cases of_decide_eq_true ho
  cases o with
  | ne => exact neO_ok e R hx hy hu h
  | isin => exact inO_ok e R hx hy hu h
  | _ => exact nse e
theorem cmpop_ok {o : Cop} {op : CmpOp} {x y : PV} {cx cy : Value} {r : Bool} {Q : Value → Shared → Prop} (e : cmpop H o x y = some r) (ho : ckC o op = true) (R : Rep T φ H s)
    (hx : VRep s.heap φ (Own φ H) x cx) (hy : VRep s.heap φ (Own φ H) y cy) (hu : A.units + 100 < cLine) (h : Q (.bool r) s) : wpAny (model prog w) A (compareOp op cx cy) Q E s :=
  oe_el e (fun _ ha e => oe_el e (fun _ hb e => (asI_of ha ▸ hx : VRep s.heap φ (Own φ H) (.int _) cx).int_el fun _ => (asI_of hb ▸ hy : VRep s.heap φ (Own φ H) (.int _) cy).int_el fun _ => cmpI_ok e ho h) fun e => cmpO_ok e ho R hx hy hu h) fun e => cmpO_ok e ho R hx hy hu h
end
end Mine
end

section
set_option maxRecDepth 100000
open PySem PySem.W PyProof.Rows
namespace Mine
section
variable {T : Tabs} {X : Addr → Prop} {φ φ' : List Plc} {H H' : AH} {s s' : Shared} {prog : Program} {w : World} {A : Around} {E : Value → Shared → Prop}

theorem Rep.unpk (R : Rep T φ H s) {v : PV} {vs : List PV} {c : Value} (e : unpk H v = some vs) (x : VRep s.heap φ (Own φ H) v c) :
    ∃ (a : Addr) (cvs : List Value), c = .ref a ∧ (s.heap.IsTuple a cvs.toArray ∨ s.heap.PlainList a cvs.toArray) ∧ VReps s.heap φ (Own φ H) vs cvs := by
  cases v with
  | tup ws =>
    simp [Mine.unpk] at e; subst e
    unfold VRep at x
    obtain ⟨a, cvs, rfl, _, h1, h2⟩ := x
    exact ⟨a, cvs, rfl, .inl h1, h2⟩
  | _ =>
    obtain ⟨a, cvs, rfl, h1, h2⟩ := R.items (by simpa only [Mine.unpk] using e) x
    exact ⟨a, cvs, rfl, .inr h1, h2⟩

theorem getItem_ok {x y v : PV} {cx cy : Value} {Q : Value → Shared → Prop} (e : vGetItem H x y = some v) (R : Rep T φ H s) (hx : VRep s.heap φ (Own φ H) x cx) (hy : VRep s.heap φ (Own φ H) y cy)
    (h : ∀ cv, VRep s.heap φ (Own φ H) v cv → Q cv s) : wpAny (model prog w) A (PySem.getItem cx cy) Q E s ∧ ∃ Ty id, s.TypeIs cx Ty ∧ typeLookup (.type Ty) "__getitem__" = pure (some (.builtin id)) := by
  cases y <;> simp only [vGetItem, reduceCtorEq] at e
  rename_i i
  split at e
  · rename_i vs hv
    split at e
    · rename_i hi
      obtain ⟨a, cvs, rfl, h1, h2⟩ := R.unpk hv hx
      obtain ⟨t, rfl⟩ := hy.int_inv
      obtain ⟨c, h3, h4⟩ := h2.get e
      have hlt : i.toNat < cvs.length := (List.getElem?_eq_some_iff.mp h3).1
      rcases h1 with h1 | h1
      · refine ⟨getItem_tuple (j := i.toNat) (x := c) h1 (by omega) (by omega) (seqIndex_of hi.1 (by rw [List.size_toArray]; omega)) (by simpa using h3) (h c h4), _, _, h1.typeIs, F.slot_tuple_getitem.lookup⟩
      · exact ⟨wpAny_getItem_list h1.isList hi.1 (by omega) (by simpa using h3) (h c h4), _, _, h1.isList.typeIs, F.slot_list_getitem.lookup⟩
    · cases e
  · cases e

theorem setItem_ok {x y v : PV} {cx cy cv : Value} {Q : Unit → Shared → Prop} (e : vSetItem H x y v = some H') (R : Rep T φ H s) (hx : VRep s.heap φ (Own φ H) x cx) (hy : VRep s.heap φ (Own φ H) y cy) (hv : VRep s.heap φ (Own φ H) v cv)
    (h : ∀ s', Rep T φ H' s' → Step X φ H s.heap φ H' s'.heap → Q () s') : wpAny (model prog w) A (PySem.setItem cx cy cv) Q E s := by
  cases x <;> simp only [vSetItem, reduceCtorEq] at e
  cases y <;> simp only [vSetItem, reduceCtorEq] at e
  split at e
  · rename_i l i _ vs hl
    split at e
    · rename_i hi
      cases e
      obtain ⟨a, cvs, h1, ⟨n, h2⟩, h3⟩ := R.list_at hl
      obtain ⟨t, rfl⟩ := hy.int_inv
      unfold VRep at hx
      obtain ⟨sl, e1, rfl⟩ := hx
      rw [h1] at e1; cases e1
      have hlen := h3.length
      refine ki_setAt h2 hi.1 (by omega) (by rw [List.size_toArray]; omega) ?_
      have hs : Heap.SameBut a s.heap (s.heap.update a (Obj.mapSeq (·.setIfInBounds i.toNat cv))) := Heap.SameBut.update ..
      have hp : (s.heap.update a (Obj.mapSeq (·.setIfInBounds i.toNat cv))).PlainList a (cvs.set i.toNat cv).toArray := by
        have q := IsL.update h2 (·.setIfInBounds i.toNat cv)
        have e2 : cvs.toArray.setIfInBounds i.toNat cv = (cvs.set i.toNat cv).toArray := by simp
        exact ⟨_, by rw [← e2]; exact q⟩
      exact h _ (R.setList h1 hl hs hp (h3.set hv) s.toks) (Step.setList h1 hl hs (let ⟨n, e⟩ := hp; ⟨_, e⟩))
    · cases e
  · cases e

theorem append_at {l : Nat} {y : PV} {vs : List PV} {c : Value} {a : Addr} (R : Rep T φ H s) (h1 : φ[l]? = some ⟨a, a⟩) (hl : H[l]? = some (.list vs)) (hz : vs.length ≤ 1000) (hy : VRep s.heap φ (Own φ H) y c) :
    ∃ (items : Array Value) (n : Nat), items.size ≤ sizeLine ∧ IsL s.heap a items n ∧ Post T X φ H s .none (H.set l (.list (vs ++ [y]))) .none { s with heap := s.heap.update a (Obj.mapSeq fun xs => xs.push c) } := by
  obtain ⟨a', cvs, e1, ⟨n, h2⟩, h3⟩ := R.list_at hl
  rw [h1] at e1; cases e1
  have hlen := h3.length
  refine ⟨cvs.toArray, n, by rw [List.size_toArray, sizeLine_eq]; omega, h2, φ, ?_⟩
  have hs : Heap.SameBut a s.heap (s.heap.update a (Obj.mapSeq fun xs => xs.push c)) := Heap.SameBut.update ..
  have hp : (s.heap.update a (Obj.mapSeq fun xs => xs.push c)).PlainList a (cvs ++ [c]).toArray := by
    have q := IsL.update h2 (fun xs => xs.push c)
    have e2 : cvs.toArray.push c = (cvs ++ [c]).toArray := by simp
    exact ⟨_, by rw [← e2]; exact q⟩
  exact ⟨R.setList h1 hl hs hp (h3.append (.cons hy .nil)) s.toks, Step.setList h1 hl hs (let ⟨n, e⟩ := hp; ⟨_, e⟩), VRep.none'⟩

theorem att_base {o : Expr} {name : Str} {env : PySem.Env} {m : Sem Value} (hc : isCall o = false) : attributeBase o name env m = m := by
  cases o <;> first | rfl | exact (bft hc.symm).elim
theorem star_cons {env : PySem.Env} {e : Expr} {rest : List Expr} (h : isStar e = false) : starEach (e :: rest) env = (false, eval e env) :: starEach rest env := by
  cases e <;> first | rfl | exact (bft h.symm).elim
theorem methodCall_ok {env : PySem.Env} {o y : Expr} {name : Str} {apos pos : Pos} {Q : Value → Shared → Prop} (hc : isCall o = false) (hst : isStar y = false) (hp : apos.endLine = pos.line)
    (h : wpAny (model prog w) A (eval o env) (fun ov s₁ => wpAny (model prog w) A (getMethod ov name (do return (← importBound o env).getD true))
      (fun fx s₂ => wpAny (model prog w) A (callWith pos fx.1 fx.2 [(false, eval y env)] []) Q E s₂) E s₁) E s) :
    wpAny (model prog w) A (eval (.Call (.Attribute o name apos) [y] [] pos) env) Q E s := by
  rw [arm_eval_Call]
  rw [att_base hc, show starEach [y] env = [(false, eval y env)] from star_cons hst]
  refine wpAny_bind (wpAny_mono h (fun ov s₁ h₁ => wpAny_bind (wpAny_standAt ?_)) fun _ _ x => x)
  unfold methodCall
  have hf : methodCallForm ([y].length + ([] : List Keyword).length) (backTo pos [(false, eval y env)]) (backToKw pos (keywordEach [] env)) = true := by
    simp [methodCallForm, backTo, backToKw, keywordEach]
  rw [hf]
  refine wpAny_bind (wpAny_holding (wpAny_mono h₁ (fun fx s₂ h₂ => ?_) fun _ _ x => x))
  obtain ⟨f, first⟩ := fx
  have hm : methodCallPos true o env apos pos = pure pos := by
    unfold methodCallPos
    simp [hp]
  refine wpAny_bind ?_
  rw [hm]
  exact wpAny_pure h₂

theorem okRng_ne {a b c : Int} (h : okRng a b c = true) : c ≠ 0 := by
  simp only [okRng, Bool.and_eq_true, Bool.or_eq_true, yy6] at h
  omega
theorem okRng_lt {a b c : Int} (h : okRng a b c = true) : c.natAbs < 1073741824 := by
  simp only [okRng, Bool.and_eq_true, Bool.or_eq_true, yy6] at h
  omega
theorem Rep.push_rng (R : Rep T φ H s) (a b c : Int) (t u v tk : Nat) :
    Post T X φ H s (.rng a b c) H (.ref s.heap.objs.size) { s with heap := s.heap.push { cls := .type "range", data := .fields #[.int a t, .int b u, .int c v] }, toks := tk } := by
  have S : Step X φ H s.heap φ H (s.heap.push { cls := .type "range", data := .fields #[.int a t, .int b u, .int c v] }) := Step.grow fun _ _ e => Heap.get?_push_of_some _ e
  refine ⟨φ, R.grow (fun _ _ e => Heap.get?_push_of_some _ e) tk, S, ?_⟩
  unfold VRep
  exact ⟨_, t, u, v, rfl, not_own_size R, Heap.get?_push_size _ rfl⟩

noncomputable def calleeOf' : Fn → Option Value
  | .abs => some (.builtin "abs")
  | .min2 => some (.builtin "min")
  | .len => some (.builtin "len")
  | .sum => some (.builtin "sum")
  | .range1 => some (.type "range")
  | .range2 => some (.type "range")
  | .range3 => some (.type "range")
  | .user _ => none
  | .cls _ => none
section
variable {h : Heap} {own : Addr → Prop}
@[elab_as_elim] theorem VReps.cons_el {P : List Value → Prop} {v : PV} {vs : List PV} {cs : List Value} (x : VReps h φ own (v :: vs) cs) (k : ∀ c r, VRep h φ own v c → VReps h φ own vs r → P (c :: r)) : P cs := by
  obtain ⟨c, r, rfl, h1, h2⟩ := x.cons_inv; exact k c r h1 h2
@[elab_as_elim] theorem VReps.one_el {P : List Value → Prop} {v : PV} {cs : List Value} (x : VReps h φ own [v] cs) (k : ∀ c, VRep h φ own v c → P [c]) : P cs := by
  obtain ⟨c, r, rfl, h1, h2⟩ := x.cons_inv; rw [h2.nil_inv]; exact k c h1
@[elab_as_elim] theorem VReps.int_el {P : List Value → Prop} {v : PV} {i : Int} {cs : List Value} (e : v = .int i) (x : VReps h φ own [v] cs) (k : ∀ t, P [.int i t]) : P cs := by
  subst e; exact x.one_el fun c h1 => h1.int_el k
@[elab_as_elim] theorem VReps.ints_el {P : List Value → Prop} {v : PV} {i : Int} {vs : List PV} {cs : List Value} (e : v = .int i) (x : VReps h φ own (v :: vs) cs) (k : ∀ t r, VReps h φ own vs r → P (.int i t :: r)) : P cs := by
  subst e; exact x.cons_el fun c r h1 h2 => h1.int_el (P := fun c => P (c :: r)) fun t => k t r h2
end
theorem callB_simple {f : Fn} {vs : List PV} {v : PV} {cs : List Value} {cf : CallF} {inits : List Nat} {callee : Value} (e : callB cf inits f vs H = some (v, H')) (R : Rep T φ H s) (hv : VReps s.heap φ (Own φ H) vs cs)
    (hh : A.handled = none) (hcal : calleeOf' f = some callee) :
    wpAny (model prog w) A (PySem.call callee cs) (Post T X φ H s v H') E s := by
  cases f with
  | abs => exact so_el hcal (o1_el e fun x h1 e => oi_el e fun a h2 e => sm_el e ((h1 ▸ hv : VReps s.heap φ (Own φ H) [x] cs).int_el h2 fun t => call_abs_int fun u tk => Post.int R _ u tk))
  | min2 =>
    refine so_el hcal (oc_el e fun x r h1 e => o1_el e fun y h2 e => oi_el e fun a h3 e => oi_el e fun b h4 e => sm_el e ?_)
    subst h1 h2
    refine hv.ints_el h3 fun t r hv => hv.int_el h4 fun u => min_two_ints hh fun h' tk hk => ?_
    split
    · exact Post.grown R hk _ _ _
    · exact Post.grown R hk _ _ _
  | len =>
    refine so_el hcal (o1_el e fun x h1 e => oo_el e fun ws h2 e => og_el e fun hle e => sm_el e ?_)
    subst h1
    refine hv.one_el fun c h1 => R.items_el h2 h1 fun a cvs h3 h4 => Calls.call_len_list h3.isList (by have := h4.length; have := of_decide_eq_true hle; rw [List.size_toArray]; omega) ?_
    rw [List.size_toArray, h4.length]
    exact Post.int R _ _ _
  | sum =>
    refine so_el hcal (o1_el e fun x h1 e => oo_el e fun ws h2 e => oo_el e fun is e3 e => sm_el e ?_)
    subst h1
    refine hv.one_el fun c h1 => R.items_el h2 h1 fun a cvs h3 h4 => ?_
    have hi := h4.ints e3
    obtain ⟨xs, hx⟩ := hi.allInts.items
    have hl' : s.heap.IsList a (intItems xs) := hx ▸ h3.isList
    refine sum_intListG hh hl' fun h' tk t' hk => ?_
    have f1 : is = xs.toList.map (·.1) := by
      rw [← nums_intItems, ← hx]
      exact (show numsOf cvs.toArray.toList = is from hi.numsOf).symm
    have f2 : preSum (numAt xs) xs.size = is.sum := by
      rw [preSum_eq, List.take_of_length_le (by simp), f1]
    rw [f2]
    exact Post.grown R hk _ _ _
  | range1 => exact so_el hcal (o1_el e fun x h1 e => oi_el e fun a h2 e => og_el e fun _ e => sm_el e ((h1 ▸ hv : VReps s.heap φ (Own φ H) [x] cs).int_el h2 fun t => call_range_1 (R.push_rng _ _ _ _ _ _ _)))
  | range2 =>
    refine so_el hcal (oc_el e fun x r h1 e => o1_el e fun y h2 e => oi_el e fun a h3 e => oi_el e fun b h4 e => og_el e fun _ e => sm_el e ?_)
    subst h1 h2
    exact hv.ints_el h3 fun t r hv => hv.int_el h4 fun u => call_range_2 (R.push_rng _ _ _ _ _ _ _)
  | range3 =>
    refine so_el hcal (oc_el e fun x r h1 e => oc_el e fun y r h2 e => o1_el e fun z h3 e => oi_el e fun a h4 e => oi_el e fun b h5 e => oi_el e fun c h6 e => og_el e fun hok e => sm_el e ?_)
    subst h1 h2 h3
    refine hv.ints_el h4 fun t r hv => hv.ints_el h5 fun u r hv => hv.int_el h6 fun y => ?_
    exact call_range_3 (okRng_ne hok) (R.push_rng _ _ _ _ _ _ _) (Or.inl (PyProof.noPylong_small (okRng_lt hok)))
  | user f => exact nse hcal
  | cls c => exact nse hcal
end
end Mine
end

section
set_option maxRecDepth 100000
open PySem PySem.W PyProof.Rows
namespace Mine

structure ClsOk (K : Frag) (N : Nms) (C : Addr) : Prop where
  cls : (clsIn K C).any (·.hasDict) = true
  ga : findIn K (.ref C) "__getattribute__" = some (some (.builtin "object.__getattribute__"))
  sa : findIn K (.ref C) "__setattr__" = some (some (.builtin "object.__setattr__"))
  po : plainOver K C = true
  attr : ∀ (k : Nat) (x : Str), N.attrs[k]? = some x → findIn K (.ref C) x = some none

section
variable {T : Tabs} {X : Addr → Prop} {φ φ' : List Plc} {H H' : AH} {s s' : Shared} {prog : Program} {A : Around} {E : Value → Shared → Prop} {h : Heap} {own : Addr → Prop}

theorem attr_get (T : Tabs) {k : Nat} (hk : k < T.N.attrs.length) : T.N.attrs[k]? = some (T.attr k) := by
  unfold Tabs.attr; rw [List.getElem?_eq_getElem hk]; rfl
theorem attr_inj {j k : Nat} (hn : T.N.attrs.Nodup) (hj : j < T.N.attrs.length) (hk : k < T.N.attrs.length) (e : T.attr j = T.attr k) : j = k := by
  have h1 := attr_get T hj
  have h2 := attr_get T hk
  rw [e] at h1
  have h3 := (List.getElem?_eq_some_iff.mp h1).2
  have h4 := (List.getElem?_eq_some_iff.mp h2).2
  exact (List.getElem_inj hn).mp (h3.trans h4.symm)

theorem isStr_str (x y : Str) (t : Tok) : (Value.str x t).isStr y = (x == y) := rfl

theorem FReps.find (hn : T.N.attrs.Nodup) {k : Nat} (hk : k < T.N.attrs.length) : ∀ {fs : List (Nat × PV)} {es : List DictEntry}, FReps T h φ own fs es → ∀ {v : PV}, getF k fs = some v →
    ∃ e, es.find? (fun x => x.key.isStr (T.attr k)) = some e ∧ VRep h φ own v e.val
  | [], _, _, v, e => by simp [getF] at e
  | (j, u) :: fs, _, ⟨hs, t, cv, r, rfl, hj, hu, x⟩, v, e => by
    unfold getF at e
    rw [List.find?_cons]
    by_cases hjk : j = k
    · subst hjk
      rw [if_pos rfl] at e
      cases e
      have : (Value.str (T.attr j) t).isStr (T.attr j) = true := by rw [isStr_str]; exact beq_self_eq_true _
      simp only [this]
      exact ⟨_, rfl, hu⟩
    · rw [if_neg hjk] at e
      have : (Value.str (T.attr j) t).isStr (T.attr k) = false := by
        rw [isStr_str]
        exact beq_eq_false_iff_ne.mpr fun q => hjk (attr_inj hn hj hk q)
      simp only [this]
      exact FReps.find hn hk x e
theorem FReps.noRef : ∀ {fs : List (Nat × PV)} {es : List DictEntry}, FReps T h φ own fs es → es.any (·.refKey) = false
  | [], _, x => by subst x; rfl
  | (_, _) :: _, _, ⟨_, _, _, _, rfl, _, _, x⟩ => by
    rw [List.any_cons, FReps.noRef x]; rfl
theorem FReps.length : ∀ {fs : List (Nat × PV)} {es : List DictEntry}, FReps T h φ own fs es → es.length = fs.length
  | [], _, x => by subst x; rfl
  | (_, _) :: _, _, ⟨_, _, _, _, rfl, _, _, x⟩ => by simp [FReps.length x]
theorem FReps.put (hn : T.N.attrs.Nodup) {k : Nat} (hk : k < T.N.attrs.length) {hs : Int} {t : Tok} {v : PV} {cv : Value} (hv : VRep h φ own v cv) : ∀ {fs : List (Nat × PV)} {es : List DictEntry}, FReps T h φ own fs es →
    FReps T h φ own (putF k v fs) (putL (T.attr k) hs (.str (T.attr k) t) cv es)
  | [], _, x => by subst x; exact ⟨hs, t, cv, [], rfl, hk, hv, rfl⟩
  | (j, u) :: fs, _, ⟨hs', t', cu, r, rfl, hj, hu, x⟩ => by
    unfold putF putL
    by_cases hjk : j = k
    · subst hjk
      have : (Value.str (T.attr j) t').isStr (T.attr j) = true := by rw [isStr_str]; exact beq_self_eq_true _
      simp only [this, if_true]
      exact ⟨hs', t', cv, r, rfl, hj, hv, x⟩
    · have : (Value.str (T.attr j) t').isStr (T.attr k) = false := by
        rw [isStr_str]
        exact beq_eq_false_iff_ne.mpr fun q => hjk (attr_inj hn hj hk q)
      simp only [this, if_neg hjk, Bool.false_eq_true, if_false]
      exact ⟨hs', t', cu, _, rfl, hj, hu, FReps.put hn hk hv x⟩
theorem putF_length (k : Nat) (v : PV) : ∀ fs : List (Nat × PV), (putF k v fs).length ≤ fs.length + 1
  | [] => by simp [putF]
  | (j, u) :: fs => by
    unfold putF
    split
    · simp
    · have := putF_length k v fs; simp; omega

theorem putL_length (name : Str) (hs : Int) (key v : Value) : ∀ es : List DictEntry, (putL name hs key v es).length ≤ es.length + 1
  | [] => by simp [putL]
  | e :: r => by
    have := putL_length name hs key v r
    unfold putL; split
    · simp
    · simp; omega

theorem VRep.handed {v : PV} {c : Value} (x : VRep h φ own v c) : handedIn c = true := by
  cases v <;> unfold VRep at x
  · subst x; rfl
  · subst x; rfl
  · obtain ⟨t, rfl⟩ := x; rfl
  · obtain ⟨a, cvs, rfl, _⟩ := x; rfl
  · obtain ⟨a, cvs, rfl, _⟩ := x; rfl
  · obtain ⟨a, t, u, w, rfl, _⟩ := x; rfl
  · obtain ⟨sl, _, rfl⟩ := x; rfl

theorem Rep.inst_at (R : Rep T φ H s) {l c : Nat} {fs : List (Nat × PV)} (e : H[l]? = some (.inst c fs)) :
    ∃ (a d C : Addr) (es : List DictEntry) (n : Nat), φ[l]? = some ⟨a, d⟩ ∧ T.clss[c]? = some C ∧ s.heap.get? a = some (instObj C d) ∧ s.heap.get? d = some (dictOf es n) ∧ FReps T s.heap φ (Own φ H) fs es := R.objs l _ e
theorem instAt_of {a d C : Addr} {es : List DictEntry} {n : Nat} (h1 : h.get? a = some (instObj C d)) (h2 : h.get? d = some (dictOf es n)) : InstAt h a (instObj C d) C (some (dictOf es n)) := ⟨h1, rfl, rfl, h2⟩

theorem getAttr_ok {x v : PV} {k : Nat} {cx : Value} {expr : Bool} {Q : Value → Shared → Prop} (e : vGetAttr H x k = some v) (R : Rep T φ H s) (hx : VRep s.heap φ (Own φ H) x cx) (hK : T.K.In T.B) (hn : T.N.attrs.Nodup)
    (hcls : ∀ (c : Nat) (C : Addr), T.clss[c]? = some C → ClsOk T.K T.N C) (hk : k < T.N.attrs.length)
    (h : ∀ cv tk, VRep s.heap φ (Own φ H) v cv → Q cv { s with toks := tk }) : wpAny (model prog T.w) A (PySem.getAttr cx (T.attr k) expr) Q E s := by
  cases x <;> simp only [vGetAttr, reduceCtorEq] at e
  split at e
  · rename_i l _ c fs hl
    obtain ⟨a, d, C, es, n, h1, h2, h3, h4, h5⟩ := R.inst_at hl
    unfold VRep at hx
    obtain ⟨sl, e1, rfl⟩ := hx
    rw [h1] at e1; cases e1
    obtain ⟨en, f1, f2⟩ := h5.find hn hk e
    have O := hcls c C h2
    have hk' := O.attr k _ (attr_get T hk)
    have KX : T.K.In s.heap := hK.keeps R.base
    obtain ⟨cd, hc, hd⟩ := any_some O.cls
    have hf : findObj T.K C (some (dictOf es n)) (T.attr k) = some (.value en.val) := by
      unfold findObj
      rw [hc, Option.bind_some, hk', Option.bind_some]
      simp only [Option.bind_some]
      have : W.ownOf cd (some (dictOf es n)) (T.attr k) = some (some en.val) := by
        unfold W.ownOf
        rw [hd, if_pos rfl]
        show lookIn (T.attr k) (dictOf es n) = _
        rw [lookIn_dict]
        unfold getL
        rw [f1]
      rw [this]; rfl
    exact get_value KX (instAt_of h3 h4) O.ga hf f2.handed (h _ _ f2)
  · cases e
end
end Mine
namespace Mine
section
variable {T : Tabs} {X : Addr → Prop} {φ φ' : List Plc} {H H' : AH} {s s' : Shared} {prog : Program} {A : Around} {E : Value → Shared → Prop} {env : PySem.Env} {vars : List Str} {ρ : Vars}

noncomputable def others (h : Heap) (L d : Addr) : List (Addr × Obj) := (List.range h.objs.size).filterMap fun b => if b = L ∨ b = d then none else (h.get? b).map fun o => (b, o)
theorem others_mem {h : Heap} {L d b : Addr} {o : Obj} (e : h.get? b = some o) (h1 : b ≠ L) (h2 : b ≠ d) : (b, o) ∈ others h L d := by
  refine List.mem_filterMap.mpr ⟨b, List.mem_range.mpr (Heap.lt_size e), ?_⟩
  rw [if_neg (by rintro (q | q); exact h1 q; exact h2 q), e]; rfl
theorem others_news {h : Heap} {L d : Addr} {p : Addr × Obj} (hp : p ∈ others h L d) : h.get? p.1 = some p.2 ∧ p.1 ≠ L ∧ p.1 ≠ d := by
  obtain ⟨b, _, e⟩ := List.mem_filterMap.mp hp
  split at e
  · cases e
  · rename_i hb
    obtain ⟨o, e1, rfl⟩ := Option.map_eq_some_iff.mp e
    exact ⟨e1, fun q => hb (.inl q), fun q => hb (.inr q)⟩

theorem setAttr_ok {x v : PV} {k : Nat} {cx cv : Value} {Q : Unit → Shared → Prop} (e : vSetAttr H x k v = some H') (R : Rep T φ H s) (F : Frame φ H s.heap env vars ρ) (KE : EnvOk T env vars) (hx : VRep s.heap φ (Own φ H) x cx)
    (hv : VRep s.heap φ (Own φ H) v cv) (hK : T.K.In T.B) (hn : T.N.attrs.Nodup)
    (hcls : ∀ (c : Nat) (C : Addr), T.clss[c]? = some C → ClsOk T.K T.N C) (hk : k < T.N.attrs.length)
    (h : ∀ s', Rep T φ H' s' → Frame φ H' s'.heap env vars ρ → Step (XOf env) φ H s.heap φ H' s'.heap → Q () s') : wpAny (model prog T.w) A (PySem.setAttr cx (T.attr k) cv) Q E s := by
  cases x <;> simp only [vSetAttr, reduceCtorEq] at e
  split at e
  · rename_i l _ c fs hl
    split at e
    · rename_i hlen
      cases e
      obtain ⟨a, d, C, es, n, h1, h2, h3, h4, h5⟩ := R.inst_at hl
      unfold VRep at hx
      obtain ⟨sl, e1, rfl⟩ := hx
      rw [h1] at e1; cases e1
      have O := hcls c C h2
      have KX : T.K.In s.heap := hK.keeps R.base
      have I := instAt_of h3 h4
      have ht : takerIn T.K C (T.attr k) = some none := by unfold takerIn; rw [O.attr k _ (attr_get T hk)]; rfl
      obtain ⟨m, hm, hmv⟩ := F.ns
      have hown : ∀ b, b = a ∨ b = d → Own φ H b := fun b q => ⟨l, _, _, h1, hl, rfl, q⟩
      have hLd : d ≠ env.locals := fun q => F.own (q ▸ hown d (.inr rfl))
      have hLa : a ≠ env.locals := fun q => F.own (q ▸ hown a (.inl rfl))
      have had : a ≠ d := by rintro rfl; rw [h3] at h4; cases h4
      refine set_plain (K := T.K) KX I O.sa ?_
      have hfr : Fr {} env.locals s.heap m := ⟨hm, (fun b o e => by cases e), Nat.zero_le _⟩
      have hnews : News {} env.locals s.heap ([] ++ (d, dictOf es n) :: others s.heap env.locals d) := by
        intro p hp
        rcases List.mem_cons.mp hp with rfl | hp
        · exact ⟨h4, hLd, rfl⟩
        · obtain ⟨q1, q2, _⟩ := others_news hp
          exact ⟨q1, q2, rfl⟩
      refine osa_dict (K := T.K) (s := { s with toks := s.toks + 1 }) (od := dictOf es n) hfr hnews KX I rfl O.po ht O.cls (by rw [lookIn_dict]; unfold getL; split; rfl; rw [if_neg (by rw [h5.noRef]; decide)]; rfl) (fun p hp => nomatch hp)
        (fun p hp => (others_news hp).2.2) (putName_dict ..) rfl ?_ fun h' F' N' => ?_
      · have h6 := h5.length
        have h7 := putL_length (T.attr k) (PyData.keyHash T.w.params (T.attr k)) (.str (T.attr k) (s.toks + 1)) cv es
        exact Nat.le_trans h7 (by omega)
      · have hd' := (N' (d, _) (by simp; exact .inl rfl)).1
        have keep : ∀ b o, b ≠ env.locals → b ≠ d → s.heap.get? b = some o → h'.get? b = some o := fun b o q1 q2 e => (N' (b, o) (by simp; exact .inr (others_mem e q1 q2))).1
        have hfz := ns_frz hm
        have S : Step (XOf env) φ H s.heap φ (H.set l (.inst c (putF k v fs))) h' := by
          refine Step.turn (o' := .inst c (putF k v fs)) h1 hl rfl rfl (fun b o e n f => keep b o ?_ (fun q => n (hown b (.inr q))) e) fun b o e => ?_
          · rintro rfl
            have := f (.inl rfl)
            rw [hfz o e] at this; cases this
          · by_cases q1 : b = env.locals
            · subst q1; obtain ⟨o', _, _, e', _⟩ := ns_data F'.ns; exact ⟨o', e'⟩
            · by_cases q2 : b = d
              · subst q2; exact ⟨_, hd'⟩
              · exact ⟨o, keep b o q1 q2 e⟩
        have R' : Rep T φ (H.set l (.inst c (putF k v fs))) { s with heap := h', toks := s.toks + 1 + 1 } := by
          refine R.turn (o' := .inst c (putF k v fs)) h1 hl rfl rfl (fun b o q1 q2 e f => keep b o ?_ q2 e) ?_ _
          · rintro rfl
            rcases f with f | f | f
            · exact F.own f
            · rw [hfz o e] at f; cases f
            · exact f KE.locB
          · refine (show ORep T h' φ (Own φ H) l (.inst c (putF k v fs)) from ⟨a, d, C, _, _, h1, h2, keep a _ hLa had h3, hd', ?_⟩)
            refine (h5.put hn hk hv).mono (fun _ _ e => e) (fun b o e n f => keep b o ?_ (fun q => n (hown b (.inr q))) e) (fun _ _ _ q => q)
            rintro rfl; rw [hfz o e] at f; cases f
        refine h _ R' ⟨F.len, fun q => F.own ((Own.set (o' := .inst c (putF k v fs)) hl rfl).mp q), ⟨m, F'.ns, fun i x u g1 g2 g3 => ?_⟩, fun x c' hc => ?_⟩ S
        · obtain ⟨cu, e1, e2⟩ := hmv i x u g1 g2 g3
          exact ⟨cu, e1, S.vrep e2⟩
        · obtain ⟨ov, k1, k2⟩ := F.cells x c' hc
          have hno := R.cell_not_own k1
          obtain ⟨oc, g1, g2⟩ := k1
          have hcl : c' ≠ env.locals := by
            rintro rfl
            obtain ⟨o1, _, _, e1, e2⟩ := ns_data hm
            rw [g1] at e1; cases e1; rw [g2] at e2; cases e2
          refine ⟨ov, ⟨oc, keep c' oc hcl (fun q => hno (hown c' (.inr q))) g1, g2⟩, fun i u f1 f2 f3 => ?_⟩
          obtain ⟨cu, e1, e2⟩ := k2 i u f1 f2 f3
          exact ⟨cu, e1, S.vrep e2⟩
    · cases e
  · cases e
end
end Mine
end

section
set_option maxRecDepth 100000
open PySem PySem.W PyProof.Rows
namespace Mine

theorem rngList_length (a c : Int) : ∀ n : Nat, (rngList a c n).length = n
  | 0 => rfl
  | n + 1 => by simp [rngList, rngList_length (a + c) c n]
theorem rngList_get (a c : Int) : ∀ (n i : Nat), i < n → (rngList a c n)[i]? = some (.int (a + (i : Int) * c))
  | 0, i, h => absurd h (Nat.not_lt_zero i)
  | n + 1, 0, _ => by simp [rngList]
  | n + 1, i + 1, h => by
    rw [rngList, yy5, rngList_get (a + c) c n i (by lia)]
    congr 2
    push_cast
    rw [Int.add_mul, Int.one_mul]; lia
theorem rng_facts {a b c : Int} (h : okRng a b c = true) : (c = 1 ∨ c = -1) ∧ Builtin.Range.rangeSize a b c = (rngSize a b c : Int) ∧ Builtin.Range.small a b c = true := by
  simp only [okRng, Bool.and_eq_true, Bool.or_eq_true, yy6] at h
  obtain ⟨⟨⟨⟨h1, h2⟩, h3⟩, h4⟩, h5⟩ := h
  have e : Builtin.Range.rangeSize a b c = (rngSize a b c : Int) := by
    unfold Builtin.Range.rangeSize rngSize
    rcases h5 with rfl | rfl
    · rw [if_pos (by decide), if_pos rfl]
      split <;> lia
    · rw [if_neg (show ¬ ((-1 : Int) > 0) by decide), if_neg (show ¬ ((-1 : Int) = 1) by decide), show -(-1 : Int) = 1 from rfl]
      split <;> lia
  refine ⟨h5, e, ?_⟩
  unfold Builtin.Range.small Builtin.Range.rangeFitsLong
  rw [e]
  have : (rngSize a b c : Int) ≤ 200000 := by
    unfold rngSize; split <;> lia
  rcases h5 with rfl | rfl <;> simp <;> lia

noncomputable def IterAt (h : Heap) (φ : List Plc) (own : Addr → Prop) (I : Addr) (i : Nat) : PV → Prop
  | .rng a b c => IsRangeIter h I (a + (i : Int) * c) ((rngSize a b c : Int) - (i : Int)) c
  | .tup vs => ∃ (ax : Addr) (cvs : List Value), h.IsTupleIter I ax i ∧ ¬ own ax ∧ h.IsTuple ax cvs.toArray ∧ VReps h φ own vs cvs
  | .lst vs => ∃ (ax : Addr) (cvs : List Value), h.IsListIter I ax i ∧ ¬ own ax ∧ h.PlainList ax cvs.toArray ∧ VReps h φ own vs cvs
  | .loc l => ∃ ax : Addr, h.IsListIter I ax i ∧ φ[l]? = some ⟨ax, ax⟩
  | _ => False

section
variable {T : Tabs} {X : Addr → Prop} {φ φ' : List Plc} {H H' : AH} {s s' : Shared} {prog : Program} {w : World} {A : Around} {E : Value → Shared → Prop} {h h' : Heap} {own : Addr → Prop}

theorem iter_cls {I : Addr} {i : Nat} {src : PV} (x : IterAt h φ own I i src) : ∃ o nm vs, h.get? I = some o ∧ o.cls = .type nm ∧ o.data = .fields vs ∧
    (["enumerate", "zip", "dict_itemiterator", "dict_reverseitemiterator", "odict_iterator", "itertools.zip_longest", "itertools.pairwise"] : List String).contains nm = false ∧ frz o = false := by
  cases src <;> simp only [IterAt] at x
  · obtain ⟨ax, cvs, ⟨o, h1, h2, h3⟩, _⟩ := x
    exact ⟨o, _, _, h1, h2, h3, by decide, by simp [frz, h3, h2]⟩
  · obtain ⟨ax, cvs, ⟨o, h1, h2, h3⟩, _⟩ := x
    exact ⟨o, _, _, h1, h2, h3, by decide, by simp [frz, h3, h2]⟩
  · exact ⟨_, _, _, x, rfl, rfl, by decide, by simp [frz]⟩
  · obtain ⟨ax, ⟨o, h1, h2, h3⟩, _⟩ := x
    exact ⟨o, _, _, h1, h2, h3, by decide, by simp [frz, h3, h2]⟩
theorem letGo_ok {I : Addr} {i : Nat} {src : PV} {target : Expr} {v : Value} {Q : Unit → Shared → Prop} (x : IterAt s.heap φ own I i src) (h : Q () s) : wpAny (model prog w) A (letOwnedTupleGo target (.ref I) v) Q E s := by
  obtain ⟨o, nm, vs, h1, h2, h3, h4, _⟩ := iter_cls x
  unfold letOwnedTupleGo
  cases target <;> first | exact wpAny_pure h | skip
  all_goals
    cases v <;> first | exact wpAny_pure h | skip
    refine wpAny_bind (wpAny_load h1 ?_)
    rw [h2, h3]
    dsimp only
    rw [h4]
    exact wpAny_pure h
theorem IterAt.step {I : Addr} {i : Nat} {src : PV} (x : IterAt h φ (Own φ H) I i src) (S : Step X φ H h φ' H' h') (hI : ¬ Own φ H I) (hX : ¬ X I) : IterAt h' φ' (Own φ' H') I i src := by
  have keepI : ∀ o, h.get? I = some o → h'.get? I = some o := fun o e => S.keep I o e hI fun q => absurd q hX
  cases src <;> simp only [IterAt] at x ⊢
  · obtain ⟨ax, cvs, ⟨o, h1, h2⟩, hax, ⟨o', h3, h4, n, h5⟩, h6⟩ := x
    exact ⟨ax, cvs, ⟨o, keepI _ h1, h2⟩, fun q => hax (S.own _ _ h3 q), ⟨o', S.keep _ _ h3 hax fun _ => by simp [frz, h5], h4, n, h5⟩, S.vreps h6⟩
  · obtain ⟨ax, cvs, ⟨o, h1, h2⟩, hax, ⟨n, h3⟩, h6⟩ := x
    exact ⟨ax, cvs, ⟨o, keepI _ h1, h2⟩, fun q => hax (S.own _ _ h3 q), ⟨n, S.keep _ _ h3 hax fun _ => by simp [frz]⟩, S.vreps h6⟩
  · exact keepI _ x
  · obtain ⟨ax, ⟨o, h1, h2⟩, h3⟩ := x
    exact ⟨ax, ⟨o, keepI _ h1, h2⟩, S.pre _ _ h3⟩

theorem iter_start {src : PV} {vs : List PV} {c : Value} {Q : Value → Shared → Prop} (e : source H src = some vs) (R : Rep T φ H s) (hv : VRep s.heap φ (Own φ H) src c)
    (h : ∀ (s' : Shared) (I : Addr), Rep T φ H s' → (∀ b o, s.heap.get? b = some o → s'.heap.get? b = some o) → s.heap.get? I = none → ¬ Own φ H I → IterAt s'.heap φ (Own φ H) I 0 src → Q (.ref I) s') :
    wpAny (model prog w) A (pyIter c) Q E s := by
  have none_size : s.heap.get? s.heap.objs.size = none := by
    cases q : s.heap.get? s.heap.objs.size with
    | none => rfl
    | some o => exact absurd (Heap.lt_size q) (Nat.lt_irrefl _)
  have grow : ∀ (o : Obj) (tk : Nat), Rep T φ H { s with heap := s.heap.push o, toks := tk } := fun o tk => R.grow (fun _ _ e => Heap.get?_push_of_some _ e) tk
  cases src <;> simp only [source, items, reduceCtorEq] at e
  · cases e
    unfold VRep at hv
    obtain ⟨a, cvs, rfl, ha, h1, h2⟩ := hv
    refine wpAny_pyIter_tuple h1 (h _ _ (grow _ s.toks) (fun _ _ e => Heap.get?_push_of_some _ e) none_size (not_own_size R) ?_)
    refine ⟨a, cvs, ⟨_, Heap.get?_push_size _ rfl, rfl, rfl⟩, ha, h1.push _, ?_⟩
    exact (Step.grow (X := NoX) (φ := φ) (H := H) fun _ _ e => Heap.get?_push_of_some _ e).vreps h2
  · cases e
    unfold VRep at hv
    obtain ⟨a, cvs, rfl, ha, ⟨n, h1⟩, h2⟩ := hv
    refine wpAny_pyIter_list (PySem.IsL.isList (n := n) h1) (h _ _ (grow _ s.toks) (fun _ _ e => Heap.get?_push_of_some _ e) none_size (not_own_size R) ?_)
    refine ⟨a, cvs, ⟨_, Heap.get?_push_size _ rfl, rfl, rfl⟩, ha, ⟨n, Heap.get?_push_of_some _ h1⟩, ?_⟩
    exact (Step.grow (X := NoX) (φ := φ) (H := H) fun _ _ e => Heap.get?_push_of_some _ e).vreps h2
  · split at e
    · rename_i hok
      cases e
      obtain ⟨_, h1, h2⟩ := rng_facts hok
      unfold VRep at hv
      obtain ⟨a, t, u, v, rfl, ha, h3⟩ := hv
      refine wpAny_pyIter_range h3 h2 (h _ _ (grow _ s.toks) (fun _ _ e => Heap.get?_push_of_some _ e) none_size (not_own_size R) ?_)
      rename_i ra rb rc _
      have q : IsRangeIter (s.heap.push { cls := .type "range_iterator", data := .fields #[rawInt ra, rawInt (Builtin.Range.rangeSize ra rb rc), rawInt rc] }) s.heap.objs.size ra (Builtin.Range.rangeSize ra rb rc) rc := Heap.get?_push_size _ rfl
      show IsRangeIter _ _ (ra + ((0 : Nat) : Int) * rc) ((rngSize ra rb rc : Int) - ((0 : Nat) : Int)) rc
      rw [← h1]
      simpa using q
    · cases e
  · split at e
    · rename_i ws hl
      cases e
      unfold VRep at hv
      obtain ⟨sl, e1, rfl⟩ := hv
      obtain ⟨a, cvs, e2, ⟨n, h1⟩, h2⟩ := R.list_at hl
      rw [e1] at e2; cases e2
      refine wpAny_pyIter_list (PySem.IsL.isList (n := n) h1) (h _ _ (grow _ s.toks) (fun _ _ e => Heap.get?_push_of_some _ e) none_size (not_own_size R) ?_)
      exact ⟨a, ⟨_, Heap.get?_push_size _ rfl, rfl, rfl⟩, e1⟩
    · cases e
end
end Mine
end

section
set_option maxRecDepth 100000
open PySem PySem.W PyProof.Rows
namespace Mine
section
variable {T : Tabs} {X : Addr → Prop} {φ φ' : List Plc} {H H' : AH} {s s' : Shared} {prog : Program} {w : World} {A : Around} {E : Value → Shared → Prop} {h h' : Heap} {own : Addr → Prop}

theorem not_own_of {I : Addr} {i : Nat} {src : PV} (R : Rep T φ H s) (x : IterAt s.heap φ (Own φ H) I i src) : ¬ Own φ H I := by
  obtain ⟨o, nm, vs, h1, h2, h3, _, _⟩ := iter_cls x
  rintro ⟨j, sl, ob, g1, g2, g3, g4⟩
  have y := R.objs j ob g2
  cases ob with
  | dead => cases g3
  | list vs =>
    obtain ⟨a, cvs, e1, ⟨n, e2⟩, _⟩ := y
    rw [g1] at e1; cases e1
    rcases g4 with rfl | rfl <;> (rw [h1] at e2; cases e2; cases h3)
  | inst k fs =>
    obtain ⟨a, dd, C, es, n, e1, _, e3, e4, _⟩ := y
    rw [g1] at e1; cases e1
    rcases g4 with rfl | rfl
    · rw [h1] at e3; cases e3; cases h3
    · rw [h1] at e4; cases e4; cases h3

theorem Rep.iterTurn (R : Rep T φ H s) {I : Addr} {i : Nat} {src : PV} (x : IterAt s.heap φ (Own φ H) I i src) (hB : T.B.get? I = none) (he : Heap.ExtBut I s.heap h') (tk : Nat) : Rep T φ H { s with heap := h', toks := tk } := by
  obtain ⟨o, nm, vs, h1, h2, h3, _, h4⟩ := iter_cls x
  refine R.change (fun b o' e c => he b o' ?_ e) rfl rfl
  rintro rfl
  rcases c with c | c | c
  · exact not_own_of R x c
  · rw [h1] at e; cases e; rw [h4] at c; cases c
  · exact c hB

theorem vrep_ext {I : Addr} {i : Nat} {src : PV} (x : IterAt h φ own I i src) (he : Heap.ExtBut I h h') {v : PV} {c : Value} (y : VRep h φ own v c) : VRep h' φ own v c := by
  obtain ⟨o, nm, vs, h1, h2, h3, _, h4⟩ := iter_cls x
  exact y.mono (fun _ _ e => e) (fun b o' e _ f => he b o' (by rintro rfl; rw [h1] at e; cases e; rw [h4] at f; cases f) e) (fun _ _ _ q => q)
theorem vreps_ext {I : Addr} {i : Nat} {src : PV} (x : IterAt h φ own I i src) (he : Heap.ExtBut I h h') {v : List PV} {c : List Value} (y : VReps h φ own v c) : VReps h' φ own v c := by
  obtain ⟨o, nm, vs, h1, h2, h3, _, h4⟩ := iter_cls x
  exact y.mono (fun _ _ e => e) (fun b o' e _ f => he b o' (by rintro rfl; rw [h1] at e; cases e; rw [h4] at f; cases f) e) (fun _ _ _ q => q)

theorem iter_next {I : Addr} {i : Nat} {src v : PV} {vs : List PV} {Q : Option Value → Shared → Prop} (e : source H src = some vs) (hv : vs[i]? = some v) (R : Rep T φ H s) (x : IterAt s.heap φ (Own φ H) I i src) (hB : T.B.get? I = none)
    (hQ : ∀ (s' : Shared) (c : Value), Rep T φ H s' → Heap.SameBut I s.heap s'.heap → IterAt s'.heap φ (Own φ H) I (i + 1) src → VRep s'.heap φ (Own φ H) v c → Q (some c) s') :
    wpAny (model prog w) A (pyNext (.ref I)) Q E s := by
  have hlt : i < vs.length := (List.getElem?_eq_some_iff.mp hv).1
  cases src <;> simp only [source, items, reduceCtorEq] at e
  · cases e
    obtain ⟨ax, cvs, h1, h2, h3, h4⟩ := id x
    obtain ⟨c, k1, k2⟩ := h4.get hv
    refine wpAny_pyNext_tuple_item h1 h3 (x := c) (by simpa using k1) fun h' q1 q2 => ?_
    have hne : ax ≠ I := by
      rintro rfl; obtain ⟨o, e1, e2, _⟩ := h3; obtain ⟨o', e3, e4, _⟩ := h1; rw [e1] at e3; cases e3; rw [e2] at e4; exact absurd (Value.type.inj e4) (by decide)
    exact hQ _ c (R.iterTurn x hB q2.extBut s.toks) q2 ⟨ax, cvs, q1, h2, h3.extBut q2.extBut hne, vreps_ext x q2.extBut h4⟩ (vrep_ext x q2.extBut k2)
  · cases e
    obtain ⟨ax, cvs, h1, h2, ⟨n, h3⟩, h4⟩ := id x
    obtain ⟨c, k1, k2⟩ := h4.get hv
    refine wpAny_pyNext_list_item h1 (PySem.IsL.isList (n := n) h3) (x := c) (by simpa using k1) fun h' q1 q2 => ?_
    have hne : ax ≠ I := by
      rintro rfl; obtain ⟨o', e3, e4, _⟩ := h1; rw [h3] at e3; cases e3; exact absurd (Value.type.inj e4) (by decide)
    exact hQ _ c (R.iterTurn x hB q2.extBut s.toks) q2 ⟨ax, cvs, q1, h2, ⟨n, q2.extBut _ _ hne h3⟩, vreps_ext x q2.extBut h4⟩ (vrep_ext x q2.extBut k2)
  · split at e
    · rename_i ra rb rc hok
      cases e
      rw [rngList_length] at hlt
      rw [rngList_get _ _ _ _ hlt] at hv
      cases hv
      refine wpAny_pyNext_range_item x (by lia) fun h' q1 q2 => ?_
      refine hQ _ _ (R.iterTurn x hB q2.extBut _) q2 ?_ VRep.int'
      show IsRangeIter _ _ (ra + ((i + 1 : Nat) : Int) * rc) ((rngSize ra rb rc : Int) - ((i + 1 : Nat) : Int)) rc
      have e1 : ra + ((i + 1 : Nat) : Int) * rc = ra + (i : Int) * rc + rc := by push_cast; rw [Int.add_mul, Int.one_mul, Int.add_assoc]
      have e2 : (rngSize ra rb rc : Int) - ((i + 1 : Nat) : Int) = (rngSize ra rb rc : Int) - (i : Int) - 1 := by push_cast; lia
      rw [e1, e2]; exact q1
    · cases e
  · split at e
    · rename_i ws hl
      cases e
      obtain ⟨ax, h1, h2⟩ := id x
      obtain ⟨a, cvs, e2, ⟨n, h3⟩, h4⟩ := R.list_at hl
      rw [h2] at e2; cases e2
      obtain ⟨c, k1, k2⟩ := h4.get hv
      refine wpAny_pyNext_list_item h1 (PySem.IsL.isList (n := n) h3) (x := c) (by simpa using k1) fun h' q1 q2 => ?_
      exact hQ _ c (R.iterTurn x hB q2.extBut s.toks) q2 ⟨ax, q1, h2⟩ (vrep_ext x q2.extBut k2)
    · cases e

theorem iter_end {I : Addr} {src : PV} {vs : List PV} {Q : Option Value → Shared → Prop} (hh : A.handled = none) (e : source H src = some vs) (R : Rep T φ H s) (x : IterAt s.heap φ (Own φ H) I vs.length src) (hB : T.B.get? I = none)
    (hQ : ∀ (s' : Shared), Rep T φ H s' → Heap.ExtBut I s.heap s'.heap → Q none s') :
    wpAny (model prog w) A (pyNext (.ref I)) Q E s := by
  cases src <;> simp only [source, items, reduceCtorEq] at e
  · cases e
    obtain ⟨ax, cvs, h1, h2, h3, h4⟩ := id x
    refine wpAny_pyNext_tuple_end hh h1 h3 (by simp [h4.length]) fun h' q => hQ _ (R.iterTurn x hB q s.toks) q
  · cases e
    obtain ⟨ax, cvs, h1, h2, ⟨n, h3⟩, h4⟩ := id x
    refine wpAny_pyNext_list_end hh h1 (PySem.IsL.isList (n := n) h3) (by simp [h4.length]) fun h' q => hQ _ (R.iterTurn x hB q s.toks) q
  · split at e
    · cases e
      have x' := x
      rw [rngList_length] at x
      refine wpAny_pyNext_range_end hh x (by lia) fun h' q => hQ _ (R.iterTurn x' hB q s.toks) q
    · cases e
  · split at e
    · rename_i ws hl
      cases e
      obtain ⟨ax, h1, h2⟩ := id x
      obtain ⟨a, cvs, e2, ⟨n, h3⟩, h4⟩ := R.list_at hl
      rw [h2] at e2; cases e2
      refine wpAny_pyNext_list_end hh h1 (PySem.IsL.isList (n := n) h3) (by simp [h4.length]) fun h' q => hQ _ (R.iterTurn x hB q s.toks) q
    · cases e

theorem draw_ok {I : Addr} {src : PV} {vs : List PV} (e : source H src = some vs) (hB : T.B.get? I = none) : ∀ (n i : Nat) (s : Shared) (Q : List Value → Shared → Prop), i + n = vs.length → Rep T φ H s → IterAt s.heap φ (Own φ H) I i src →
    (∀ (s' : Shared) (cs : List Value), Rep T φ H s' → Heap.ExtBut I s.heap s'.heap → IterAt s'.heap φ (Own φ H) I vs.length src → VReps s'.heap φ (Own φ H) (vs.drop i) cs → Q cs s') → wpAny (model prog w) A (draw (.ref I) n) Q E s
  | 0, i, s, Q, hn, R, x, hQ => by
    have : i = vs.length := by lia
    subst this
    refine wpAny_pure (hQ s [] R (fun _ _ _ e => e) x ?_)
    rw [List.drop_length]; exact .nil
  | n + 1, i, s, Q, hn, R, x, hQ => by
    have hlt : i < vs.length := by lia
    show wpAny _ _ (pyNext (.ref I) >>= _) Q E s
    refine wpAny_bind (iter_next e (List.getElem?_eq_getElem hlt) R x hB fun s₁ c R₁ hs₁ x₁ hc => ?_)
    refine wpAny_bind (wpAny_holding (draw_ok e hB n (i + 1) s₁ _ (by lia) R₁ x₁ fun s₂ cs R₂ he₂ x₂ hcs => ?_))
    refine wpAny_pure (hQ s₂ (c :: cs) R₂ (hs₁.extBut.trans he₂) x₂ ?_)
    rw [List.drop_eq_getElem_cons hlt]
    exact .cons (vrep_ext x₁ he₂ hc) hcs

theorem unpack_ok {src : PV} {vs : List PV} {c : Value} {Q : List Value → Shared → Prop} (hh : A.handled = none) (e : unpk H src = some vs) (R : Rep T φ H s) (hv : VRep s.heap φ (Own φ H) src c)
    (hQ : ∀ (s' : Shared) (cs : List Value), Rep T φ H s' → Step NoX φ H s.heap φ H s'.heap → VReps s'.heap φ (Own φ H) vs cs → Q cs s') : wpAny (model prog w) A (unpackItems c vs.length none) Q E s := by
  have e' : source H src = some vs := by
    cases src <;> simp only [unpk, source, items, reduceCtorEq] at e ⊢ <;> exact e
  have hT : ∃ Ty id, s.TypeIs c Ty ∧ typeLookup (.type Ty) "__iter__" = pure (some id) := by
    obtain ⟨a, cvs, rfl, h1 | h1, _⟩ := R.unpk e hv
    · exact ⟨_, _, h1.typeIs, F.slot_tuple_iter.lookup⟩
    · exact ⟨_, _, h1.isList.typeIs, slot_list_iter.lookup⟩
  obtain ⟨Ty, id, hT, hl⟩ := hT
  unfold unpackItems
  refine wpAny_bind ?_
  unfold notIterableAtAll
  refine wpAny_bind (wpAny_specialOf hT hl ?_)
  refine wpAny_pure ?_
  simp only [Bool.false_eq_true, if_false]
  refine wpAny_bind (wpAny_holding (iter_start e' R hv fun s₁ I R₁ hk hI hoI x₁ => ?_))
  have hB : T.B.get? I = none := by
    cases q : T.B.get? I with
    | none => rfl
    | some o => rw [R.base I o q] at hI; cases hI
  refine wpAny_bind (wpAny_holding (draw_ok e' hB vs.length 0 s₁ _ (by lia) R₁ x₁ fun s₂ cs R₂ he₂ x₂ hcs => ?_))
  have hlen := hcs.length
  rw [List.drop_zero] at hcs hlen
  rw [if_neg (by lia)]
  refine wpAny_bind (wpAny_holding (iter_end hh e' R₂ x₂ hB fun s₃ R₃ he₃ => ?_))
  simp only [Option.isSome_none, Bool.false_eq_true, if_false]
  refine wpAny_pure (hQ s₃ cs R₃ ?_ (vreps_ext x₂ he₃ hcs))
  have S : Step NoX φ H s.heap φ H s₁.heap := Step.grow hk
  exact (S.new1 hI he₂).new1 hI he₃
end
end Mine
end

section
set_option maxRecDepth 100000
open PySem PySem.W PyProof.Rows
namespace Mine
section
variable {T : Tabs} {X : Addr → Prop} {φ φ' : List Plc} {H H' : AH} {s s' : Shared} {prog : Program} {w : World} {A : Around} {E : Value → Shared → Prop} {h h' : Heap} {own : Addr → Prop} {env : PySem.Env} {vars : List Str} {ρ ρ' : Vars}

theorem ckStore_len : ∀ {vs : List Str} {is : List Nat} {xs : List Str}, ckStore vs is xs = true → is.length = xs.length
  | _, [], [], _ => rfl
  | _, [], _ :: _, h => (bft h).elim
  | vs, i :: is, xs, h => bc_el xs h fun x r h => and_el h fun _ h => congrArg Nat.succ (ckStore_len h)

theorem names_assign (env : PySem.Env) : ∀ {es : List Expr} {tn : List Str}, namesOf es = some tn → (assignEach es env).length = tn.length ∧ (assignEach es env).findIdx? (·.1) = none
  | [], tn, h => so_el h ⟨rfl, rfl⟩
  | e :: r, tn, h => by
    refine oo_el h fun x hx h => oo_el h fun xs hr h => so_el h (nameOf_el e hx fun p => ?_)
    obtain ⟨h2, h3⟩ := names_assign env hr
    exact ⟨congrArg Nat.succ h2, by show List.findIdx? _ ((false, assign (.Name x p) env) :: assignEach r env) = none; rw [List.findIdx?_cons, h3]; rfl⟩

theorem stores_ok (KE : EnvOk T env vars) (hXL : X env.locals) : ∀ {es : List Expr} {tn : List Str} {ts : List Nat} {vs : List PV} {cs : List Value} {ρ ρ' : Vars} {s : Shared} {Q : Unit → Shared → Prop}, namesOf es = some tn → ckStore vars ts tn = true → setAll ts vs ρ = some ρ' →
    Rep T φ H s → Frame φ H s.heap env vars ρ → VReps s.heap φ (Own φ H) vs cs → (∀ x ∈ tn, ∀ c, env.kindOf x = some .cell → env.cells.lookup x = some c → X c) →
    (∀ s', Rep T φ H s' → Frame φ H s'.heap env vars ρ' → Step X φ H s.heap φ H s'.heap → Q () s') → wpAny (model prog w) A (assignInOrder ((assignEach es env).map (·.2)) cs) Q E s
  | [], tn, [], [], cs, ρ, ρ', s, Q, h1, h2, h3, R, F, hv, hXC, hQ => assignInOrder_nil (hQ s R (Option.some.inj h3 ▸ F) (Step.refl ..))
  | [], tn, [], _ :: _, cs, ρ, ρ', s, Q, h1, h2, h3, R, F, hv, hXC, hQ => nse h3
  | [], tn, i :: is, vs, cs, ρ, ρ', s, Q, h1, h2, h3, R, F, hv, hXC, hQ => by cases h1; exact (bft h2).elim
  | e :: r, tn, [], vs, cs, ρ, ρ', s, Q, h1, h2, h3, R, F, hv, hXC, hQ => by
    refine oo_el h1 fun x hx h => oo_el h fun xs hr h => ?_
    cases h; cases h2
  | e :: r, tn, i :: is, vs, cs, ρ, ρ', s, Q, h1, h2, h3, R, F, hv, hXC, hQ => by
    refine oo_el h1 fun x hx h => oo_el h fun r' hr h => ?_
    cases h
    refine nameOf_el e hx fun p => and_el h2 fun g1 g2 => oc_el h3 fun v vs' e h4 => og_el h4 fun _ h4 => ?_
    subst e
    refine hv.cons_el fun c cs' k1 k2 => ?_
    refine assignInOrder_cons (wpAny_assign_Name (store_var KE R F (beq_iff_eq.mp g1) k1 hXL (hXC x (.head _)) fun s₁ R₁ F₁ S₁ => ?_))
    exact stores_ok KE hXL hr g2 h4 R₁ F₁ (S₁.vreps k2) (fun y hy => hXC y (.tail _ hy)) fun s₂ R₂ F₂ S₂ => hQ s₂ R₂ F₂ (S₁.trans S₂)

theorem bind_ok (hh : A.handled = none) (KE : EnvOk T env vars) {t : Expr} {tn : List Str} {ts : List Nat} {v : PV} {c : Value} {Q : Unit → Shared → Prop} (h1 : targets t = some tn) (h2 : ckStore vars ts tn = true) (h3 : bindT ts v ρ = some ρ')
    (R : Rep T φ H s) (F : Frame φ H s.heap env vars ρ) (hv : VRep s.heap φ (Own φ H) v c) (hXL : X env.locals) (hXC : ∀ x ∈ tn, ∀ c, env.kindOf x = some .cell → env.cells.lookup x = some c → X c)
    (hQ : ∀ s', Rep T φ H s' → Frame φ H s'.heap env vars ρ' → Step X φ H s.heap φ H s'.heap → Q () s') : wpAny (model prog w) A (assign t env c) Q E s := by
  have hlen := ckStore_len h2
  refine targets_el t h1 (fun x p e => ?_) fun es k pos hn h2' => ?_
  · subst e
    rcases ts with _ | ⟨i, _ | ⟨j, r⟩⟩
    · cases hlen
    · exact and_el h2 fun g _ => og_el h3 fun _ h3 => wpAny_assign_Name (store_var KE R F (beq_iff_eq.mp g) hv hXL (hXC x (.head _)) (Option.some.inj h3 ▸ hQ))
    · cases hlen
  · rcases ts with _ | ⟨i, _ | ⟨j, r⟩⟩
    · rw [← hlen] at h2'; cases h2'
    · rw [← hlen] at h2'; exact absurd h2' (Nat.not_succ_le_self 1)
    · refine ot_el h3 fun vs e h4 => ?_
      subst e
      obtain ⟨n1, n2⟩ := names_assign env hn
      have e1 : (assignEach es env).length = vs.length := by rw [n1, setAll_len h4, hlen]
      rw [arm_assign_Tuple]
      refine wpAny_bind (wpAny_standAt ?_)
      unfold unpack
      rw [e1, n2]
      refine wpAny_bind (wpAny_holding (unpack_ok hh (src := .tup vs) rfl R hv fun s₁ cs R₁ S₁ hcs => ?_))
      exact stores_ok KE hXL hn h2 h4 R₁ (F.step0 R S₁) hcs hXC fun s₂ R₂ F₂ S₂ => hQ s₂ R₂ F₂ (S₁.noX.trans S₂)
end
end Mine
end

section
set_option maxRecDepth 100000
open PySem PySem.W PyProof.Rows
namespace Mine

noncomputable abbrev NoE : Value → Shared → Prop := fun _ _ => False
noncomputable def noOwn : Addr → Prop := fun _ => False

noncomputable def keepB (K : Frag) (f : Value) : Bool := match f with
  | .ref a => keepIn K (.ref a)
  | _ => true
theorem keeps_B {M : Model} {K : Frag} {f : Value} (hk : keepB K f = true) (h : Heap) (X : K.In h) : ∃ k, (k = Keeper.frame ∨ k = Keeper.machine ∨ k = Keeper.boundFrame) ∧ Looks M h (keeperOf f) k := by
  cases f with
  | ref a => exact keeps_K (show keepIn K (.ref a) = true from hk) h X
  | _ => exact ⟨.machine, .inr (.inl rfl), .now⟩
structure Good (T : Tabs) : Prop where
  hK : T.K.In T.B
  nd : T.N.attrs.Nodup
  cls : ∀ (c : Nat) (C : Addr), T.clss[c]? = some C → ClsOk T.K T.N C
  ns : ∃ mg mb, T.B.Ns mainGlobals mg ∧ T.B.Ns builtinsNs mb ∧
    (∀ (g : Nat) (x : Str) (v : PV), T.N.gn[g]? = some x → T.globs[g]? = some v → ∃ cv, mg x = some cv ∧ VRep T.B [] noOwn v cv) ∧
    (∀ (f : Fn) (x : Str) (c : Value), ckF T.N f x = true → calleeOf' f = some c → mg x = none ∧ mb x = some c ∧ keepB T.K c = true) ∧
    (∀ (f : Nat) (x : Str), T.N.fn[f]? = some (some x) → ∃ a, T.fadr[f]? = some a ∧ mg x = some (.ref a) ∧ keepIn T.K (.ref a) = true) ∧
    (∀ (c : Nat) (x : Str), T.N.cn[c]? = some x → ∃ C, T.clss[c]? = some C ∧ mg x = some (.ref C) ∧ keepIn T.K (.ref C) = true)

structure CallsOk (prog : Program) (T : Tabs) (cf : CallF) (inits : List Nat) (D U : Nat) : Prop where
  fn : ∀ (f : Nat) (a : Addr) (vs : List PV) (H : AH) (v : PV) (H' : AH) (φ : List Plc) (s : Shared) (cs : List Value) (A : Around), cf f vs H = some (v, H') → T.fadr[f]? = some a → Rep T φ H s → VReps s.heap φ (Own φ H) vs cs →
    A.handled = none → A.depth ≤ D → A.units ≤ U → wpAny (model prog T.w) A (PySem.call (.ref a) cs) (Post T NoX φ H s v H') NoE s
  cls : ∀ (c : Nat) (C : Addr) (vs : List PV) (H : AH) (v : PV) (H' : AH) (φ : List Plc) (s : Shared) (cs : List Value) (A : Around), callB cf inits (.cls c) vs H = some (v, H') → T.clss[c]? = some C → Rep T φ H s → VReps s.heap φ (Own φ H) vs cs →
    A.handled = none → A.depth ≤ D → A.units ≤ U → wpAny (model prog T.w) A (PySem.call (.ref C) cs) (Post T NoX φ H s v H') NoE s

noncomputable def PostB (T : Tabs) (φ : List Plc) (H : AH) (s : Shared) (b : Bool) (H' : AH) : Bool → Shared → Prop :=
  fun c s' => c = b ∧ ∃ φ', Rep T φ' H' s' ∧ Step NoX φ H s.heap φ' H' s'.heap
noncomputable def PostL (T : Tabs) (φ : List Plc) (H : AH) (s : Shared) (vs : List PV) (H' : AH) : List Value → Shared → Prop :=
  fun cs s' => ∃ φ', Rep T φ' H' s' ∧ Step NoX φ H s.heap φ' H' s'.heap ∧ VReps s'.heap φ' (Own φ' H') vs cs

structure Cond (T : Tabs) (D U : Nat) (vars : List Str) (env : PySem.Env) (ρ : Vars) (φ : List Plc) (H : AH) (s : Shared) (A : Around) : Prop where
  hh : A.handled = none
  dep : A.depth ≤ D
  un : A.units ≤ U
  ke : EnvOk T env vars
  rep : Rep T φ H s
  fr : Frame φ H s.heap env vars ρ

section
variable (prog : Program) (T : Tabs)
noncomputable def GE (A : Around) (e : Expr) (env : PySem.Env) (φ : List Plc) (H : AH) (s : Shared) (v : PV) (H' : AH) : Prop := wpAny (model prog T.w) A (eval e env) (Post T NoX φ H s v H') NoE s
noncomputable def GT (A : Around) (e : Expr) (env : PySem.Env) (φ : List Plc) (H : AH) (s : Shared) (b : Bool) (H' : AH) : Prop := wpAny (model prog T.w) A (isTrue e env (eval e env)) (PostB T φ H s b H') NoE s
end
section
variable (prog : Program) (T : Tabs) (cf : CallF) (inits : List Nat) (D U : Nat)
noncomputable def SndE (x : Ex) : Prop := ∀ (vars : List Str) (env : PySem.Env) (ρ : Vars) (e : Expr) (H H' : AH) (v : PV) (φ : List Plc) (s : Shared) (A : Around),
  ckE T.N vars env.scope x e = true → evE cf inits T.globs ρ x H = some (v, H') → Cond T D U vars env ρ φ H s A → GE prog T A e env φ H s v H'
noncomputable def SndT (x : Ex) : Prop := ∀ (vars : List Str) (env : PySem.Env) (ρ : Vars) (e : Expr) (H H' : AH) (b : Bool) (φ : List Plc) (s : Shared) (A : Around),
  ckE T.N vars env.scope x e = true → vTrue (evE cf inits T.globs ρ x H) = some (b, H') → Cond T D U vars env ρ φ H s A → GT prog T A e env φ H s b H'
noncomputable def SndEs (xs : Exs) : Prop := ∀ (vars : List Str) (env : PySem.Env) (ρ : Vars) (es : List Expr) (pos : Pos) (H H' : AH) (vs : List PV) (φ : List Plc) (s : Shared) (A : Around),
  ckEs T.N vars env.scope xs es = true → evEs cf inits T.globs ρ xs H = some (vs, H') → Cond T D U vars env ρ φ H s A →
  wpAny (model prog T.w) A (spliced (backTo pos (starEach es env))) (PostL T φ H s vs H') NoE s
noncomputable def SndAnd (xs : Exs) : Prop := ∀ (vars : List Str) (env : PySem.Env) (ρ : Vars) (es : List Expr) (pos : Pos) (H H' : AH) (v : PV) (φ : List Plc) (s : Shared) (A : Around),
  ckEs T.N vars env.scope xs es = true → evAnd cf inits T.globs ρ xs H = some (v, H') → Cond T D U vars env ρ φ H s A →
  wpAny (model prog T.w) A (eval (.BoolOp .And es pos) env) (Post T NoX φ H s v H') NoE s
noncomputable def SndOr (xs : Exs) : Prop := ∀ (vars : List Str) (env : PySem.Env) (ρ : Vars) (es : List Expr) (pos : Pos) (H H' : AH) (v : PV) (φ : List Plc) (s : Shared) (A : Around),
  ckEs T.N vars env.scope xs es = true → evOr cf inits T.globs ρ xs H = some (v, H') → Cond T D U vars env ρ φ H s A →
  wpAny (model prog T.w) A (eval (.BoolOp .Or es pos) env) (Post T NoX φ H s v H') NoE s
noncomputable def SndAndT (xs : Exs) : Prop := ∀ (vars : List Str) (env : PySem.Env) (ρ : Vars) (es : List Expr) (pos : Pos) (whole : Sem Value) (H H' : AH) (b : Bool) (φ : List Plc) (s : Shared) (A : Around),
  ckEs T.N vars env.scope xs es = true → vTrue (evAnd cf inits T.globs ρ xs H) = some (b, H') → Cond T D U vars env ρ φ H s A →
  wpAny (model prog T.w) A (isTrue (.BoolOp .And es pos) env whole) (PostB T φ H s b H') NoE s
noncomputable def SndOrT (xs : Exs) : Prop := ∀ (vars : List Str) (env : PySem.Env) (ρ : Vars) (es : List Expr) (pos : Pos) (whole : Sem Value) (H H' : AH) (b : Bool) (φ : List Plc) (s : Shared) (A : Around),
  ckEs T.N vars env.scope xs es = true → vTrue (evOr cf inits T.globs ρ xs H) = some (b, H') → Cond T D U vars env ρ φ H s A →
  wpAny (model prog T.w) A (isTrue (.BoolOp .Or es pos) env whole) (PostB T φ H s b H') NoE s
end

section
variable {prog : Program} {T : Tabs} {cf : CallF} {inits : List Nat} {D U : Nat} {X : Addr → Prop} {φ φ' : List Plc} {H H' H1 : AH} {s s' : Shared} {A : Around} {vars : List Str} {env : PySem.Env} {ρ : Vars} {E : Value → Shared → Prop}

theorem Cond.step (c : Cond T D U vars env ρ φ H s A) (R : Rep T φ' H' s') (S : Step NoX φ H s.heap φ' H' s'.heap) : Cond T D U vars env ρ φ' H' s' A :=
  ⟨c.hh, c.dep, c.un, c.ke, R, c.fr.step0 c.rep S⟩
theorem Post.trans {v : PV} {c : Value} {s1 s2 : Shared} {φ1 : List Plc} (S : Step X φ H s.heap φ1 H1 s1.heap) (x : Post T X φ1 H1 s1 v H' c s2) : Post T X φ H s v H' c s2 := by
  obtain ⟨φ', R, S', V⟩ := x
  exact ⟨φ', R, S.trans S', V⟩
theorem PostB.trans {b c : Bool} {s1 s2 : Shared} {φ1 : List Plc} (S : Step NoX φ H s.heap φ1 H1 s1.heap) (x : PostB T φ1 H1 s1 b H' c s2) : PostB T φ H s b H' c s2 := by
  obtain ⟨e, φ', R, S'⟩ := x
  exact ⟨e, φ', R, S.trans S'⟩
theorem PostL.trans {v : List PV} {c : List Value} {s1 s2 : Shared} {φ1 : List Plc} (S : Step NoX φ H s.heap φ1 H1 s1.heap) (x : PostL T φ1 H1 s1 v H' c s2) : PostL T φ H s v H' c s2 := by
  obtain ⟨φ', R, S', V⟩ := x
  exact ⟨φ', R, S.trans S', V⟩
theorem SndE.go {x : Ex} (ix : SndE prog T cf inits D U x) {e : Expr} {v : PV} {Q : Value → Shared → Prop} (h1 : ckE T.N vars env.scope x e = true) (h2 : evE cf inits T.globs ρ x H = some (v, H1)) (c : Cond T D U vars env ρ φ H s A)
    (k : ∀ cv s1 φ1, Rep T φ1 H1 s1 → Step NoX φ H s.heap φ1 H1 s1.heap → VRep s1.heap φ1 (Own φ1 H1) v cv → Q cv s1) : wpAny (model prog T.w) A (eval e env) Q E s :=
  wpAny_mono (ix vars env ρ e H H1 v φ s A h1 h2 c) (fun cv s1 ⟨φ1, R1, S1, V1⟩ => k cv s1 φ1 R1 S1 V1) fun _ _ f => f.elim
theorem SndT.go {x : Ex} (ix : SndT prog T cf inits D U x) {e : Expr} {b : Bool} {Q : Bool → Shared → Prop} (h1 : ckE T.N vars env.scope x e = true) (h2 : vTrue (evE cf inits T.globs ρ x H) = some (b, H1)) (c : Cond T D U vars env ρ φ H s A)
    (k : ∀ s1 φ1, Rep T φ1 H1 s1 → Step NoX φ H s.heap φ1 H1 s1.heap → Q b s1) : wpAny (model prog T.w) A (isTrue e env (eval e env)) Q E s :=
  wpAny_mono (ix vars env ρ e H H1 b φ s A h1 h2 c) (fun _ s1 ⟨e, φ1, R1, S1⟩ => e ▸ k s1 φ1 R1 S1) fun _ _ f => f.elim
theorem SndEs.go {xs : Exs} (ix : SndEs prog T cf inits D U xs) {es : List Expr} {pos : Pos} {vs : List PV} {Q : List Value → Shared → Prop} (h1 : ckEs T.N vars env.scope xs es = true) (h2 : evEs cf inits T.globs ρ xs H = some (vs, H1)) (c : Cond T D U vars env ρ φ H s A)
    (k : ∀ cs s1 φ1, Rep T φ1 H1 s1 → Step NoX φ H s.heap φ1 H1 s1.heap → VReps s1.heap φ1 (Own φ1 H1) vs cs → Q cs s1) : wpAny (model prog T.w) A (spliced (backTo pos (starEach es env))) Q E s :=
  wpAny_mono (ix vars env ρ es pos H H1 vs φ s A h1 h2 c) (fun cv s1 ⟨φ1, R1, S1, V1⟩ => k cv s1 φ1 R1 S1 V1) fun _ _ f => f.elim

theorem vTrue_el {C : Prop} {r : Option (PV × AH)} {b : Bool} {H' : AH} (e : vTrue r = some (b, H')) (k : ∀ v, r = some (v, H') → truthy v = some b → C) : C :=
  ob_el e fun v H h e => oo_el e fun b ht e => (sm_el (P := fun b H' => (∀ v, r = some (v, H') → truthy v = some b → C) → C) e fun k => k v h ht) k
theorem vTrue_of {r : Option (PV × AH)} {v : PV} {b : Bool} {H : AH} (e : r = some (v, H)) (ht : truthy v = some b) : vTrue r = some (b, H) := by
  subst e; show oo (truthy v) _ = _; rw [ht]; rfl
theorem vTrue_some {r : Option (PV × AH)} {b : Bool} {H' : AH} (e : vTrue r = some (b, H')) : ∃ v, r = some (v, H') ∧ truthy v = some b := vTrue_el e fun v h1 h2 => ⟨v, h1, h2⟩

noncomputable def plainShape (e : Expr) : Bool := !isStar e && (!Nat.beq e.ctorIdx 7 && !Nat.beq e.ctorIdx 26)
theorem ck_shape {N : Nms} {vs : List Str} {sc : Scope} {x : Ex} {e : Expr} (h : ckE N vs sc x e = true) : plainShape e = true := by
  cases x with
  | const => exact eC_el e h fun _ _ _ _ => rfl
  | glob | var => exact eN_el e h fun _ _ _ => rfl
  | bin => exact eB_el e h fun _ _ _ _ _ => rfl
  | neg | inv | not => exact eU_el e h fun _ _ _ _ => rfl
  | and | or => exact eBo_el e h fun _ _ _ _ => rfl
  | cmp | cmp2 => exact eCm_el e h fun _ _ _ _ _ => rfl
  | ite => exact eIf_el e h fun _ _ _ _ _ => rfl
  | attr => exact eA_el e h fun _ _ _ _ => rfl
  | item | sliceFrom => exact eS_el e h fun _ _ _ _ => rfl
  | call | append | count => exact eCa_el e h fun _ _ _ _ _ => rfl
  | list => exact eL_el e h fun _ _ _ => rfl
  | tuple => exact eT_el e h fun _ _ _ _ => rfl
  | comp => exact eLc_el e h fun _ _ _ _ _ => rfl
theorem no_marks {op : CmpOp} {e : Expr} (h : plainShape e = true) : behindInMarks op e = false := by
  cases e <;> first | rfl | exact (bft h).elim
theorem set_plain {e : Expr} {z : Value} (h : plainShape e = true) : foldedSetIterable e env z = pure z := by
  cases e <;> first | rfl | exact (bft h).elim
theorem sub_plain {e : Expr} {a b : Value} (h : plainShape e = true) : subscripted e false a b = operate [a, b] (getItem a b) := by
  cases e <;> first | rfl | exact (bft h).elim
theorem sub2_plain {e : Expr} (h : plainShape e = true) : ∀ ov iv new : Value, augStore e ov iv new = (do holding [new, ov, iv] (setItem ov iv new); release [new, ov, iv] []; pure .next) := by
  cases e <;> first | (intro _ _ _; rfl) | exact (bft h).elim
theorem attr_n {k : Nat} {n : Str} (h : T.N.attrs[k]? = some n) : k < T.N.attrs.length ∧ n = T.attr k := by
  have hk := (List.getElem?_eq_some_iff.mp h).1
  exact ⟨hk, Option.some.inj (h.symm.trans (attr_get T hk))⟩
theorem Cond.u (c : Cond T D U vars env ρ φ H s A) (hU : U + 100 < cLine) : A.units + 100 < cLine := Nat.lt_of_le_of_lt (Nat.add_le_add_right c.un 100) hU
theorem star_plain {e : Expr} {rest : List Expr} (h : plainShape e = true) : starEach (e :: rest) env = (false, eval e env) :: starEach rest env :=
  star_cons (and_el h fun h _ => nt h)
theorem cks_shape {N : Nms} {vs : List Str} {sc : Scope} : ∀ {xs : Exs} {es : List Expr}, ckEs N vs sc xs es = true → ∀ e ∈ es, plainShape e = true
  | .nil, es, h => by cases List.isEmpty_iff.mp h; intro e he; cases he
  | .cons x r, es, h => bc_el es h fun y ys h => and_el h fun h1 h2 => by
    intro e' he
    rcases List.mem_cons.mp he with rfl | he
    · exact ck_shape h1
    · exact cks_shape h2 e' he
theorem noStars : ∀ {es : List Expr} {pos : Pos}, (∀ e ∈ es, plainShape e = true) → (backTo pos (starEach es env)).any (·.1) = false
  | [], _, _ => rfl
  | e :: r, pos, h => by
    rw [star_plain (h e (by simp))]
    have := noStars (pos := pos) (es := r) fun e' he => h e' (by simp [he])
    simpa [backTo] using this

theorem truth_after {e : Expr} {v : PV} {b : Bool} (ht : Mine.truthy v = some b) (h : GE prog T A e env φ H s v H') :
    wpAny (model prog T.w) A (eval e env) (fun c s1 => wpAny (model prog T.w) A (PySem.truthy c) (PostB T φ H s b H') NoE s1) NoE s := by
  refine wpAny_mono h (fun c s1 ⟨φ1, R1, S1, V1⟩ => ?_) fun _ _ f => f
  exact truthy_ok ht V1 ⟨rfl, φ1, R1, S1⟩
end
end Mine
end

section
set_option maxRecDepth 100000
open PySem PySem.W PyProof.Rows
namespace Mine
section
variable {prog : Program} {T : Tabs} {cf : CallF} {inits : List Nat} {D U : Nat}

theorem snd_const {v : PV} : SndE prog T cf inits D U (.const v) := by
  intro vars env ρ e H H' u φ s A hck hev c
  refine eC_el e hck fun k n p hck => sm_el hev ?_
  cases v with
  | none => exact (of_decide_eq_true hck : k = .none) ▸ Constant_none ⟨φ, c.rep, Step.refl .., VRep.none'⟩
  | bool b => exact (of_decide_eq_true hck : k = .bool b) ▸ Constant_bool (Post.bool c.rep _)
  | int i => exact (of_decide_eq_true hck : k = .int i) ▸ wpAny_Constant_int (Post.int c.rep _ _ _)
  | _ => exact (bft hck).elim

theorem glob_kind {env : PySem.Env} {x : Str} (h : kG env.scope x = true) : env.kindOf x = some .globalImplicit ∧ (x == ("__debug__" : Str)) = false := by
  simp only [kG, Bool.and_eq_true, beq_iff_eq, bne_iff_ne, ne_eq] at h
  exact ⟨h.1, by simpa using h.2⟩

theorem base_ns {φ : List Plc} {H : AH} {s : Shared} {a : Addr} {m : Str → Option Value} (R : Rep T φ H s) (h : T.B.Ns a m) : s.heap.Ns a m := h.keeps R.base
theorem base_vrep {φ : List Plc} {H : AH} {s : Shared} {v : PV} {c : Value} (R : Rep T φ H s) (h : VRep T.B [] noOwn v c) : VRep s.heap φ (Own φ H) v c :=
  h.mono (fun i sl e => by simp at e) (fun b o e _ _ => R.base b o e) (fun b o e q => by have := R.fresh b q; rw [e] at this; cases this)

theorem snd_glob (G : Good T) {g : Nat} : SndE prog T cf inits D U (.glob g) := by
  intro vars env ρ e H H' u φ s A hck hev c
  refine eN_el e hck fun x pos hck => and_el hck fun h1 h2 => oo_el hev fun v hv hev => sm_el hev ?_
  obtain ⟨mg, mb, n1, n2, n3, _⟩ := G.ns
  obtain ⟨cv, h4, h5⟩ := n3 g x v (beq_iff_eq.mp h1) hv
  obtain ⟨k1, k2⟩ := glob_kind h2
  exact Calls.Name_function_global c.ke.kind k1 (Calls.loadGlobal_global (by rw [c.ke.glob]; exact base_ns c.rep n1) h4 ⟨φ, c.rep, Step.refl .., base_vrep c.rep h5⟩) k2

theorem snd_var {i : Nat} : SndE prog T cf inits D U (.var i) := by
  intro vars env ρ e H H' u φ s A hck hev c
  refine eN_el e hck fun x pos hck => oo_el hev fun o ho hev => oo_el hev fun v hv hev => sm_el hev ?_
  subst hv
  exact wpAny_Name (load_var c.ke c.fr (beq_iff_eq.mp hck) ho fun cv hcv => ⟨φ, c.rep, Step.refl .., hcv⟩) (c.ke.vk x (List.mem_of_getElem? (beq_iff_eq.mp hck))).1

theorem snd_bin {o : Bop} {a b : Ex} (ia : SndE prog T cf inits D U a) (ib : SndE prog T cf inits D U b) : SndE prog T cf inits D U (.bin o a b) := by
  intro vars env ρ e H H' u φ s A hck hev c
  exact eB_el e hck fun l op r pos hck => and_el hck fun k1 hck => and_el hck fun k2 k3 => ob_el hev fun x H1 h1 hev => ob_el hev fun y H2 h2 hev =>
    wpAny_BinOp (ia.go k2 h1 c fun c1 s1 φ1 R1 S1 V1 => ib.go k3 h2 (c.step R1 S1) fun c2 s2 φ2 R2 S2 V2 =>
      wpAny_mono (binop_ok (X := NoX) hev k1 R2 (S2.vrep V1) V2) (fun _ _ h3 => Post.trans (S1.trans S2) h3) fun _ _ f => f)

theorem snd_neg {a : Ex} (ia : SndE prog T cf inits D U a) : SndE prog T cf inits D U (.neg a) := by
  intro vars env ρ e H H' u φ s A hck hev c
  exact eU_el e hck fun op x pos hck => and_el hck fun k1 k2 => obi_el hev fun i H1 h1 hev => sm_el hev (of_decide_eq_true k1 ▸
    UnaryOp_ (ia.go k2 h1 c fun c1 s1 φ1 R1 S1 V1 => V1.int_el fun t => neg_int (Post.trans S1 (Post.int R1 _ _ _))))
theorem snd_inv {a : Ex} (ia : SndE prog T cf inits D U a) : SndE prog T cf inits D U (.inv a) := by
  intro vars env ρ e H H' u φ s A hck hev c
  exact eU_el e hck fun op x pos hck => and_el hck fun k1 k2 => obi_el hev fun i H1 h1 hev => sm_el hev (of_decide_eq_true k1 ▸
    UnaryOp_ (ia.go k2 h1 c fun c1 s1 φ1 R1 S1 V1 => V1.int_el fun t => invert_int (Post.trans S1 (Post.int R1 _ _ _))))

theorem snd_not {a : Ex} (ia : SndE prog T cf inits D U a) : SndE prog T cf inits D U (.not a) := by
  intro vars env ρ e H H' u φ s A hck hev c
  exact eU_el e hck fun op x pos hck => and_el hck fun k1 k2 => ob_el hev fun b H1 h1 hev => sm_el hev (vTrue_el h1 fun v h2 h3 => of_decide_eq_true k1 ▸
    UnaryOp_ (ia.go k2 h2 c fun c1 s1 φ1 R1 S1 V1 => not_of (truthy_ok h3 V1 ⟨φ1, R1, S1, VRep.bool'⟩)))
theorem sndT_not {a : Ex} (ia : SndT prog T cf inits D U a) : SndT prog T cf inits D U (.not a) := by
  intro vars env ρ e H H' b φ s A hck hev c
  exact vTrue_el hev fun v h2 h3 => eU_el e hck fun op x pos hck => and_el hck fun k1 k2 => ob_el h2 fun b' H1 h1 h2 => by
    cases h2; cases h3
    exact of_decide_eq_true k1 ▸ isTrue_not (ia.go k2 h1 c fun s1 φ1 R1 S1 => ⟨rfl, φ1, R1, S1⟩)

theorem snd_cmp (hU : U + 100 < cLine) {o : Cop} {a b : Ex} (ia : SndE prog T cf inits D U a) (ib : SndE prog T cf inits D U b) : SndE prog T cf inits D U (.cmp o a b) := by
  intro vars env ρ e H H' u φ s A hck hev c
  exact eCm_el e hck fun l os rs pos hck => b1_el os hck fun op hck => b1_el rs hck fun r hck => and_el hck fun k1 hck => and_el hck fun k2 k3 =>
    ob_el hev fun x H1 h1 hev => ob_el hev fun y H2 h2 hev => oo_el hev fun q h3 hev => sm_el hev
      (wpAny_Compare1 (ia.go k2 h1 c fun c1 s1 φ1 R1 S1 V1 => ib.go k3 h2 (c.step R1 S1) fun c2 s2 φ2 R2 S2 V2 =>
        cmpop_ok h3 k1 R2 (S2.vrep V1) V2 (c.u hU) ⟨φ2, R2, S1.trans S2, VRep.bool'⟩) (no_marks (ck_shape k3)))
theorem sndT_cmp (hU : U + 100 < cLine) {o : Cop} {a b : Ex} (ia : SndE prog T cf inits D U a) (ib : SndE prog T cf inits D U b) : SndT prog T cf inits D U (.cmp o a b) := by
  intro vars env ρ e H H' u φ s A hck hev' c
  exact vTrue_el hev' fun v hev ht => eCm_el e hck fun l os rs pos hck => b1_el os hck fun op hck => b1_el rs hck fun r hck => and_el hck fun k1 hck => and_el hck fun k2 k3 =>
    ob_el hev fun x H1 h1 hev => ob_el hev fun y H2 h2 hev => oo_el hev fun q h3 hev => by
      cases hev; cases ht
      exact wpAny_isTrue_Compare1 (ia.go k2 h1 c fun c1 s1 φ1 R1 S1 V1 => ib.go k3 h2 (c.step R1 S1) fun c2 s2 φ2 R2 S2 V2 =>
        cmpop_ok h3 k1 R2 (S2.vrep V1) V2 (c.u hU) (wpAny_truthy_bool ⟨rfl, φ2, R2, S1.trans S2⟩)) (no_marks (ck_shape k3))

theorem snd_cmp2 (hU : U + 100 < cLine) {o1 o2 : Cop} {a b d : Ex} (ia : SndE prog T cf inits D U a) (ib : SndE prog T cf inits D U b) (id : SndE prog T cf inits D U d) : SndE prog T cf inits D U (.cmp2 o1 o2 a b d) := by
  intro vars env ρ e H H' u φ s A hck hev c
  exact eCm_el e hck fun l os rs pos hck => bc_el os hck fun op1 os hck => b1_el os hck fun op2 hck => bc_el rs hck fun r1 rs hck => b1_el rs hck fun r2 hck =>
    and_el hck fun k1 hck => and_el hck fun k2 hck => and_el hck fun k3 hck => and_el hck fun k4 k5 =>
    ob_el hev fun x H1 h1 hev => ob_el hev fun y H2 h2 hev => oo_el hev fun q h3 hev =>
      Compare_chain (ia.go k3 h1 c fun c1 s1 φ1 R1 S1 V1 => chain_link (ib.go k4 h2 (c.step R1 S1) fun c2 s2 φ2 R2 S2 V2 => cmpop_ok h3 k1 R2 (S2.vrep V1) V2 (c.u hU) (wpAny_truthy_bool (by
        cases q with
        | false => exact sm_el hev ⟨φ2, R2, S1.trans S2, VRep.bool'⟩
        | true =>
          exact ob_el hev fun z H3 h4 hev => oo_el hev fun q h5 hev => sm_el hev (chain_last (id.go k5 h4 (c.step R2 (S1.trans S2)) fun c3 s3 φ3 R3 S3 V3 =>
            cmpop_ok h5 k2 R3 (S3.vrep V2) V3 (c.u hU) ⟨φ3, R3, (S1.trans S2).trans S3, VRep.bool'⟩)))))) (no_marks (ck_shape k5))
theorem test_last {M : Model} {A : Around} {E : Value → Shared → Prop} {s : Shared} {pos : Pos} {a : Value} {op : CmpOp} {r : Sem Value} {Q : Bool → Shared → Prop}
    (h : wpAny M A r (fun b s₁ => wpAny M A (compareOp op a b) (fun c s₂ => wpAny M A (PySem.truthy c) Q E s₂) E s₁) E s) : wpAny M A (testChain pos a [op] [r]) Q E s := by
  show wpAny M A (do
    let rv ← holding [a] r
    standAt pos
    let c ← operate [a, rv] (compareOp op a rv)
    holding [c] (PySem.truthy c)) Q E s
  exact wpAny_bind (wpAny_holding (wpAny_mono h (fun b s₁ h₁ => wpAny_bind (wpAny_standAt (wpAny_bind (wpAny_operate' (wpAny_mono h₁ (fun c s2 h2 => wpAny_holding h2) fun _ _ x => x))))) fun _ _ x => x))
theorem sndT_cmp2 (hU : U + 100 < cLine) {o1 o2 : Cop} {a b d : Ex} (ia : SndE prog T cf inits D U a) (ib : SndE prog T cf inits D U b) (id : SndE prog T cf inits D U d) : SndT prog T cf inits D U (.cmp2 o1 o2 a b d) := by
  intro vars env ρ e H H' u φ s A hck hev' c
  exact vTrue_el hev' fun v hev ht => eCm_el e hck fun l os rs pos hck => bc_el os hck fun op1 os hck => b1_el os hck fun op2 hck => bc_el rs hck fun r1 rs hck => b1_el rs hck fun r2 hck =>
    and_el hck fun k1 hck => and_el hck fun k2 hck => and_el hck fun k3 hck => and_el hck fun k4 k5 =>
    ob_el hev fun x H1 h1 hev => ob_el hev fun y H2 h2 hev => oo_el hev fun q h3 hev =>
      isTrue_chain (ia.go k3 h1 c fun c1 s1 φ1 R1 S1 V1 => test_link (ib.go k4 h2 (c.step R1 S1) fun c2 s2 φ2 R2 S2 V2 => cmpop_ok h3 k1 R2 (S2.vrep V1) V2 (c.u hU) (wpAny_truthy_bool (by
        cases q with
        | false => cases hev; cases ht; exact ⟨rfl, φ2, R2, S1.trans S2⟩
        | true =>
          exact ob_el hev fun z H3 h4 hev => oo_el hev fun q h5 hev => by
            cases hev; cases ht
            exact test_last (id.go k5 h4 (c.step R2 (S1.trans S2)) fun c3 s3 φ3 R3 S3 V3 => cmpop_ok h5 k2 R3 (S3.vrep V2) V3 (c.u hU) (wpAny_truthy_bool ⟨rfl, φ3, R3, (S1.trans S2).trans S3⟩)))))) (no_marks (ck_shape k5))

theorem snd_ite {a b d : Ex} (ia : SndT prog T cf inits D U a) (ib : SndE prog T cf inits D U b) (id : SndE prog T cf inits D U d) : SndE prog T cf inits D U (.ite a b d) := by
  intro vars env ρ e H H' u φ s A hck hev c
  exact eIf_el e hck fun t x y pos hck => and_el hck fun k1 hck => and_el hck fun k2 k3 => ob_el hev fun q H1 h1 hev => IfExp_ (ia.go k1 h1 c fun s1 φ1 R1 S1 => by
    cases q with
    | true => exact wpAny_mono (ib vars env ρ x H1 H' u φ1 s1 A k2 hev (c.step R1 S1)) (fun _ _ h2 => Post.trans S1 h2) fun _ _ f => f
    | false => exact wpAny_mono (id vars env ρ y H1 H' u φ1 s1 A k3 hev (c.step R1 S1)) (fun _ _ h2 => Post.trans S1 h2) fun _ _ f => f)
theorem sndT_ite {a b d : Ex} (ia : SndT prog T cf inits D U a) (ib : SndT prog T cf inits D U b) (id : SndT prog T cf inits D U d) : SndT prog T cf inits D U (.ite a b d) := by
  intro vars env ρ e H H' u φ s A hck hev c
  exact eIf_el e hck fun t x y pos hck => and_el hck fun k1 hck => and_el hck fun k2 k3 => vTrue_el hev fun v h0 ht => ob_el h0 fun q H1 h1 hev => isTrue_IfExp (ia.go k1 h1 c fun s1 φ1 R1 S1 => by
    cases q with
    | true => exact wpAny_mono (ib vars env ρ x H1 H' u φ1 s1 A k2 (vTrue_of hev ht) (c.step R1 S1)) (fun _ _ h2 => PostB.trans S1 h2) fun _ _ f => f
    | false => exact wpAny_mono (id vars env ρ y H1 H' u φ1 s1 A k3 (vTrue_of hev ht) (c.step R1 S1)) (fun _ _ h2 => PostB.trans S1 h2) fun _ _ f => f)

theorem snd_attr (G : Good T) {a : Ex} {k : Nat} (ia : SndE prog T cf inits D U a) : SndE prog T cf inits D U (.attr a k) := by
  intro vars env ρ e H H' u φ s A hck hev c
  refine eA_el e hck fun x n pos hck => and_el hck fun k1 hck => and_el hck fun k2 k3 => ob_el hev fun y H1 h1 hev => oo_el hev fun v h2 hev => sm_el hev ?_
  obtain ⟨hk, rfl⟩ := attr_n (beq_iff_eq.mp k1)
  exact Attribute_any_ (ia.go k3 h1 c fun c1 s1 φ1 R1 S1 V1 => getAttr_ok h2 R1 V1 G.hK G.nd G.cls hk fun cv tk hv => ⟨φ1, R1.toks tk, S1, hv⟩) (by rw [arm_eval_Attribute, att_base (nt k2)])

theorem snd_item {a i : Ex} (ia : SndE prog T cf inits D U a) (ii : SndE prog T cf inits D U i) : SndE prog T cf inits D U (.item a i) := by
  intro vars env ρ e H H' u φ s A hck hev c
  refine eS_el e hck fun x y pos hck => and_el hck fun k1 k2 => ob_el hev fun p H1 h1 hev => ob_el hev fun q H2 h2 hev => oo_el hev fun v h3 hev => sm_el hev ?_
  refine Subscript_ (ia.go k1 h1 c fun c1 s1 φ1 R1 S1 V1 => ii.go k2 h2 (c.step R1 S1) fun c2 s2 φ2 R2 S2 V2 => ?_)
  obtain ⟨h4, Ty, id, h5, h6⟩ := getItem_ok (prog := prog) (w := T.w) (A := A) (E := NoE) h3 R2 (S2.vrep V1) V2 (Q := fun r s3 => Post T NoX φ H s v H2 r s3) fun cv hcv => ⟨φ2, R2, S1.trans S2, hcv⟩
  exact tail_any (ops := [c1, c2]) h5 h6 h4 (sub_plain (ck_shape k2))
end
end Mine
end

section
set_option maxRecDepth 100000
open PySem PySem.W PyProof.Rows
namespace Mine
section
variable {prog : Program} {T : Tabs} {cf : CallF} {inits : List Nat} {D U : Nat}

theorem snd_es_nil : SndEs prog T cf inits D U .nil := by
  intro vars env ρ es pos H H' vs φ s A hck hev c
  exact em_el es hck (sm_el hev (spliced_none ⟨φ, c.rep, Step.refl .., .nil⟩))
theorem snd_es_cons {a : Ex} {r : Exs} (ia : SndE prog T cf inits D U a) (ir : SndEs prog T cf inits D U r) : SndEs prog T cf inits D U (.cons a r) := by
  intro vars env ρ es pos H H' vs φ s A hck hev c
  exact bc_el es hck fun e es hck => and_el hck fun k1 k2 => ob_el hev fun x H1 h1 hev => ob_el hev fun xs H2 h2 hev => sm_el hev
    (spliced_more (ia.go k1 h1 c fun c1 s1 φ1 R1 S1 V1 => ir.go k2 h2 (c.step R1 S1) fun c2 s2 φ2 R2 S2 V2 => ⟨φ2, R2, S1.trans S2, .cons (S2.vrep V1) V2⟩) (star_plain (ck_shape k1)))

theorem snd_and_nil : SndAnd prog T cf inits D U .nil := fun _ _ _ _ _ _ _ _ _ _ _ _ hev _ => nse hev
theorem snd_or_nil : SndOr prog T cf inits D U .nil := fun _ _ _ _ _ _ _ _ _ _ _ _ hev _ => nse hev
theorem snd_and_cons {a : Ex} {r : Exs} (ia : SndE prog T cf inits D U a) (ir : SndAnd prog T cf inits D U r) : SndAnd prog T cf inits D U (.cons a r) := by
  intro vars env ρ es pos H H' v φ s A hck hev c
  refine bc_el es hck fun e es hck => and_el hck fun k1 k2 => ob_el hev fun x H1 h1 hev => ?_
  cases r with
  | nil => exact em_el es k2 (sm_el hev (BoolOp_one (ia vars env ρ e H _ _ φ s A k1 h1 c)))
  | cons b r =>
    refine bc_el es k2 fun e2 es k2 => oo_el hev fun t ht hev => BoolOp_and (ia.go k1 h1 c fun c1 s1 φ1 R1 S1 V1 => truthy_ok ht V1 ?_)
    cases t with
    | false => exact sm_el hev ⟨φ1, R1, S1, V1⟩
    | true => exact wpAny_mono (ir vars env ρ (e2 :: es) pos H1 H' v φ1 s1 A k2 hev (c.step R1 S1)) (fun _ _ h2 => Post.trans S1 h2) fun _ _ f => f
theorem snd_or_cons {a : Ex} {r : Exs} (ia : SndE prog T cf inits D U a) (ir : SndOr prog T cf inits D U r) : SndOr prog T cf inits D U (.cons a r) := by
  intro vars env ρ es pos H H' v φ s A hck hev c
  refine bc_el es hck fun e es hck => and_el hck fun k1 k2 => ob_el hev fun x H1 h1 hev => ?_
  cases r with
  | nil => exact em_el es k2 (sm_el hev (BoolOp_one (ia vars env ρ e H _ _ φ s A k1 h1 c)))
  | cons b r =>
    refine bc_el es k2 fun e2 es k2 => oo_el hev fun t ht hev => BoolOp_or (ia.go k1 h1 c fun c1 s1 φ1 R1 S1 V1 => truthy_ok ht V1 ?_)
    cases t with
    | true => exact sm_el hev ⟨φ1, R1, S1, V1⟩
    | false => exact wpAny_mono (ir vars env ρ (e2 :: es) pos H1 H' v φ1 s1 A k2 hev (c.step R1 S1)) (fun _ _ h2 => Post.trans S1 h2) fun _ _ f => f
theorem snd_andT_nil : SndAndT prog T cf inits D U .nil := fun _ _ _ _ _ _ _ _ _ _ _ _ _ hev _ => nse hev
theorem snd_orT_nil : SndOrT prog T cf inits D U .nil := fun _ _ _ _ _ _ _ _ _ _ _ _ _ hev _ => nse hev
theorem snd_andT_cons {a : Ex} {r : Exs} (ia : SndT prog T cf inits D U a) (ir : SndAndT prog T cf inits D U r) : SndAndT prog T cf inits D U (.cons a r) := by
  intro vars env ρ es pos whole H H' v φ s A hck hev c
  refine vTrue_el hev fun w hev ht => bc_el es hck fun e es hck => and_el hck fun k1 k2 => ob_el hev fun x H1 h1 hev => ?_
  cases r with
  | nil =>
    cases hev
    refine em_el es k2 (isTrue_and (ia.go k1 (vTrue_of h1 ht) c fun s1 φ1 R1 S1 => ?_))
    cases v with
    | false => exact ⟨rfl, φ1, R1, S1⟩
    | true => exact isTrue_and_nil ⟨rfl, φ1, R1, S1⟩
  | cons b r =>
    refine oo_el hev fun t hx hev => isTrue_and (ia.go k1 (vTrue_of h1 hx) c fun s1 φ1 R1 S1 => ?_)
    cases t with
    | false => cases hev; exact ⟨Option.some.inj (hx.symm.trans ht), φ1, R1, S1⟩
    | true => exact wpAny_mono (ir vars env ρ es pos whole H1 H' v φ1 s1 A k2 (vTrue_of hev ht) (c.step R1 S1)) (fun _ _ h2 => PostB.trans S1 h2) fun _ _ f => f
theorem snd_orT_cons {a : Ex} {r : Exs} (ia : SndT prog T cf inits D U a) (ir : SndOrT prog T cf inits D U r) : SndOrT prog T cf inits D U (.cons a r) := by
  intro vars env ρ es pos whole H H' v φ s A hck hev c
  refine vTrue_el hev fun w hev ht => bc_el es hck fun e es hck => and_el hck fun k1 k2 => ob_el hev fun x H1 h1 hev => ?_
  cases r with
  | nil =>
    cases hev
    refine em_el es k2 (isTrue_or (ia.go k1 (vTrue_of h1 ht) c fun s1 φ1 R1 S1 => ?_))
    cases v with
    | true => exact ⟨rfl, φ1, R1, S1⟩
    | false => exact isTrue_or_nil ⟨rfl, φ1, R1, S1⟩
  | cons b r =>
    refine oo_el hev fun t hx hev => isTrue_or (ia.go k1 (vTrue_of h1 hx) c fun s1 φ1 R1 S1 => ?_)
    cases t with
    | true => cases hev; exact ⟨Option.some.inj (hx.symm.trans ht), φ1, R1, S1⟩
    | false => exact wpAny_mono (ir vars env ρ es pos whole H1 H' v φ1 s1 A k2 (vTrue_of hev ht) (c.step R1 S1)) (fun _ _ h2 => PostB.trans S1 h2) fun _ _ f => f
theorem snd_and {r : Exs} (ir : SndAnd prog T cf inits D U r) : SndE prog T cf inits D U (.and r) := by
  intro vars env ρ e H H' u φ s A hck hev c
  exact eBo_el e hck fun op xs pos hck => and_el hck fun k1 k2 => of_decide_eq_true k1 ▸ ir vars env ρ xs pos H H' u φ s A k2 hev c
theorem snd_or {r : Exs} (ir : SndOr prog T cf inits D U r) : SndE prog T cf inits D U (.or r) := by
  intro vars env ρ e H H' u φ s A hck hev c
  exact eBo_el e hck fun op xs pos hck => and_el hck fun k1 k2 => of_decide_eq_true k1 ▸ ir vars env ρ xs pos H H' u φ s A k2 hev c
theorem sndT_and {r : Exs} (ir : SndAndT prog T cf inits D U r) : SndT prog T cf inits D U (.and r) := by
  intro vars env ρ e H H' u φ s A hck hev c
  exact eBo_el e hck fun op xs pos hck => and_el hck fun k1 k2 => of_decide_eq_true k1 ▸ ir vars env ρ xs pos _ H H' u φ s A k2 hev c
theorem sndT_or {r : Exs} (ir : SndOrT prog T cf inits D U r) : SndT prog T cf inits D U (.or r) := by
  intro vars env ρ e H H' u φ s A hck hev c
  exact eBo_el e hck fun op xs pos hck => and_el hck fun k1 k2 => of_decide_eq_true k1 ▸ ir vars env ρ xs pos _ H H' u φ s A k2 hev c

noncomputable def opEx (x : Ex) : Bool := Nat.ble 6 x.ctorIdx && Nat.ble x.ctorIdx 11
theorem pl_shape {N : Nms} {vs : List Str} {sc : Scope} {x : Ex} {e : Expr} {env : PySem.Env} {whole : Sem Value} (hx : opEx x = false) (h : ckE N vs sc x e = true) : isTrue e env whole = (do let v ← whole; standAt e.pos; holding [v] (PySem.truthy v)) := by
  cases x with
  | const => exact eC_el e h fun _ _ _ _ => rfl
  | glob | var => exact eN_el e h fun _ _ _ => rfl
  | bin => exact eB_el e h fun _ _ _ _ _ => rfl
  | neg | inv => exact eU_el e h fun _ _ _ h => and_el h fun h _ => of_decide_eq_true h ▸ rfl
  | attr => exact eA_el e h fun _ _ _ _ => rfl
  | item | sliceFrom => exact eS_el e h fun _ _ _ _ => rfl
  | call | append | count => exact eCa_el e h fun _ _ _ _ _ => rfl
  | list => exact eL_el e h fun _ _ _ => rfl
  | tuple => exact eT_el e h fun _ _ _ _ => rfl
  | comp => exact eLc_el e h fun _ _ _ _ _ => rfl
  | _ => exact (bft hx.symm).elim
theorem sndT_plain {x : Ex} (hx : opEx x = false) (ix : SndE prog T cf inits D U x) : SndT prog T cf inits D U x := by
  intro vars env ρ e H H' b φ s A hck hev c
  exact vTrue_el hev fun v hev ht => isTrue_plain (truth_after ht (ix vars env ρ e H H' v φ s A hck hev c)) (pl_shape hx hck)

theorem sz_ok {n : Nat} (h : decide (n ≤ 1000) = true) : n ≤ sizeLine := by
  rw [sizeLine_eq]; have := of_decide_eq_true h; omega
theorem snd_list {r : Exs} (ir : SndEs prog T cf inits D U r) : SndE prog T cf inits D U (.list r) := by
  intro vars env ρ e H H' u φ s A hck hev c
  exact eL_el e hck fun xs pos hck => ob_el hev fun vs H1 h1 hev => og_el hev fun hl hev => sm_el hev
    (wpAny_List_spliced (ir.go hck h1 c fun cs s1 φ1 R1 S1 V1 => ⟨V1.length ▸ sz_ok hl, Post.trans S1 (R1.push_list V1 s1.toks)⟩))
theorem snd_tuple {r : Exs} (ir : SndEs prog T cf inits D U r) : SndE prog T cf inits D U (.tuple r) := by
  intro vars env ρ e H H' u φ s A hck hev c
  exact eT_el e hck fun xs k pos hck => ob_el hev fun vs H1 h1 hev => og_el hev fun hl hev => sm_el hev
    (wpAny_Tuple_spliced (ir.go hck h1 c fun cs s1 φ1 R1 S1 V1 => ⟨V1.length ▸ sz_ok hl, Post.trans S1 (R1.push_tup V1 s1.toks)⟩))

theorem callEnd {env : PySem.Env} {pos : Pos} {f : Value} {es : List Expr} {s : Shared} {A : Around} {φ : List Plc} {H H1 : AH} {vs : List PV} {Q : Value → Shared → Prop} (G : Good T) (R : Rep T φ H s) (hsh : ∀ e ∈ es, plainShape e = true) (hk : keepB T.K f = true)
    (h0 : es = [] → vs = [] ∧ H1 = H) (h : wpAny (model prog T.w) A (spliced (backTo pos (starEach es env))) (PostL T φ H s vs H1) NoE s)
    (hq : ∀ cs s1, PostL T φ H s vs H1 cs s1 → wpAny (model prog T.w) A (PySem.call f cs) Q NoE s1) :
    wpAny (model prog T.w) A (callWith pos f [] (backTo pos (starEach es env)) []) Q NoE s := by
  cases es with
  | nil =>
    obtain ⟨rfl, rfl⟩ := h0 rfl
    exact callWith_of rfl (keeps_B hk) (evalArgs_nil3 ⟨G.hK.keeps R.base, hq [] s ⟨φ, R, Step.refl .., .nil⟩⟩)
  | cons e r =>
    have he := star_plain (env := env) (rest := r) (hsh e (by simp))
    have hplain : (backTo pos (starEach r env)).any (·.1) = false := noStars fun e' he => hsh e' (by simp [he])
    rw [he] at h ⊢
    refine callWith_of (P := T.K.In) (by show ((false || (backTo pos (starEach r env)).any (·.1)) || false) = false; rw [hplain]; rfl) (keeps_B hk) (PySem.Calls.evalArgs_plain (wpAny_mono h (fun cs s1 h1 => ?_) fun _ _ f => f))
    obtain ⟨φ1, R1, _⟩ := id h1
    exact ⟨G.hK.keeps R1.base, hq cs s1 h1⟩

theorem es_nil {N : Nms} {vs : List Str} {sc : Scope} {g : List PV} {ρ : Vars} {r : Exs} {H H1 : AH} {ws : List PV} (h : ckEs N vs sc r [] = true) (e : evEs cf inits g ρ r H = some (ws, H1)) : ws = [] ∧ H1 = H := by
  cases r with
  | nil => cases e; exact ⟨rfl, rfl⟩
  | cons => exact (bft h).elim
theorem snd_call (G : Good T) (C : CallsOk prog T cf inits D U) {f : Fn} {r : Exs} (ir : SndEs prog T cf inits D U r) : SndE prog T cf inits D U (.call f r) := by
  intro vars env ρ e H H' u φ s A hck hev c
  refine eCa_el e hck fun fn xs ks pos hck => eN_el fn hck fun x np hck => and_el hck fun h1 hck => and_el hck fun h2 hck => and_el hck fun h3 hck => and_el hck fun _ h4 => em_el ks h3 (ob_el hev fun vs H1 h5 hev => ?_)
  obtain ⟨k1, k2⟩ := glob_kind h2
  obtain ⟨mg, mb, n1, n2, n3, n4, n5, n6⟩ := G.ns
  have fin : ∀ {g : Value}, keepB T.K g = true → (∀ cs s1 φ1, Rep T φ1 H1 s1 → Step NoX φ H s.heap φ1 H1 s1.heap → VReps s1.heap φ1 (Own φ1 H1) vs cs → wpAny (model prog T.w) A (PySem.call g cs) (Post T NoX φ1 H1 s1 u H') NoE s1) →
      wpAny (model prog T.w) A (callWith pos g [] (backTo pos (starEach xs env)) []) (Post T NoX φ H s u H') NoE s := fun hk hq =>
    callEnd G c.rep (cks_shape h4) hk (fun e => es_nil (e ▸ h4) h5) (ir vars env ρ xs pos H H1 vs φ s A h4 h5 c) fun cs s1 ⟨φ1, R1, S1, V1⟩ => wpAny_mono (hq cs s1 φ1 R1 S1 V1) (fun _ _ h2 => Post.trans S1 h2) fun _ _ f => f
  refine Call_Name rfl ?_
  have glob : ∀ {g : Value} {Q : Value → Shared → Prop}, mg x = some g → Q g s → wpAny (model prog T.w) A (eval (.Name x np) env) Q NoE s := fun m2 q =>
    Calls.Name_function_global c.ke.kind k1 (Calls.loadGlobal_global (by rw [c.ke.glob]; exact base_ns c.rep n1) m2 q) k2
  cases hcal : calleeOf' f with
  | some cal =>
    obtain ⟨m1, m2, m3⟩ := n4 f x cal h1 hcal
    exact Calls.Name_function_global c.ke.kind k1 (Calls.loadGlobal_builtin (by rw [c.ke.glob]; exact base_ns c.rep n1) m1 (by rw [c.ke.blt]; exact base_ns c.rep n2) m2 (fin m3 fun cs s1 φ1 R1 S1 V1 => callB_simple (X := NoX) hev R1 V1 c.hh hcal)) k2
  | none =>
    cases f with
    | user fi =>
      obtain ⟨a, m1, m2, m3⟩ := n5 fi x (beq_iff_eq.mp h1)
      exact glob m2 (fin m3 fun cs s1 φ1 R1 S1 V1 => C.fn fi a vs H1 u H' φ1 s1 cs A hev m1 R1 V1 c.hh c.dep c.un)
    | cls ci =>
      obtain ⟨a, m1, m2, m3⟩ := n6 ci x (beq_iff_eq.mp h1)
      exact glob m2 (fin m3 fun cs s1 φ1 R1 S1 V1 => C.cls ci a vs H1 u H' φ1 s1 cs A hev m1 R1 V1 c.hh c.dep c.un)
    | _ => exact nse hcal.symm

theorem plain_noDict {h : Heap} {a : Addr} {items : Array Value} (x : h.PlainList a items) : h.NoDictAt (.ref a) := by
  obtain ⟨n, e⟩ := x
  unfold Heap.NoDictAt
  exact ⟨_, e, rfl⟩

theorem snd_append {a b : Ex} (ia : SndE prog T cf inits D U a) (ib : SndE prog T cf inits D U b) : SndE prog T cf inits D U (.append a b) := by
  intro vars env ρ e H H' u φ s A hck hev c
  refine eCa_el e hck fun fn xs ks pos hck => eA_el fn hck fun x n ap hck => b1_el xs hck fun y hck => and_el hck fun h0 hck => and_el hck fun h1 hck => and_el hck fun h2 hck => and_el hck fun h3 hck => and_el hck fun h4 hck => and_el hck fun h5 h6 => em_el ks h0
    (obl_el hev fun l H1 g1 hev => oL_el hev fun ws0 g0 hev => ob_el hev fun v H2 g2 hev => oL_el hev fun ws g3 hev => og_el hev fun g4 hev => sm_el hev ?_)
  cases beq_iff_eq.mp h1
  refine methodCall_ok (nt h3) (nt h4) (of_decide_eq_true h2) (ia.go h5 g1 c fun c1 s1 φ1 R1 S1 V1 => ?_)
  unfold VRep at V1
  obtain ⟨sl, e1, rfl⟩ := V1
  obtain ⟨a1, cvs1, e2, p1, _⟩ := R1.list_at g0
  rw [e1] at e2; cases e2
  refine getMethod_list_of F.slot_list_append F.type_list_append p1.isList (plain_noDict p1) ?_
  refine P.append_list (ib.go h6 g2 (c.step R1 S1) fun c2 s2 φ2 R2 S2 V2 => ?_)
  obtain ⟨items, n, q1, q2, q3⟩ := append_at (X := NoX) (T := T) R2 (S2.pre _ _ e1) g3 (of_decide_eq_true g4) V2
  exact ⟨items, n, q1, q2, Post.trans (S1.trans S2) q3⟩

theorem snd_count {a b : Ex} (ia : SndE prog T cf inits D U a) (ib : SndE prog T cf inits D U b) : SndE prog T cf inits D U (.count a b) := by
  intro vars env ρ e H H' u φ s A hck hev c
  refine eCa_el e hck fun fn xs ks pos hck => eA_el fn hck fun x n ap hck => b1_el xs hck fun y hck => and_el hck fun h0 hck => and_el hck fun h1 hck => and_el hck fun h2 hck => and_el hck fun h3 hck => and_el hck fun h4 hck => and_el hck fun h5 h6 => em_el ks h0
    (ob_el hev fun p H1 g1 hev => oo_el hev fun ws0 g0 hev => obi_el hev fun k H2 g2 hev => oo_el hev fun ws g3 hev => oo_el hev fun is g4 hev => og_el hev fun g5 hev => sm_el hev ?_)
  cases beq_iff_eq.mp h1
  refine methodCall_ok (nt h3) (nt h4) (of_decide_eq_true h2) (ia.go h5 g1 c fun c1 s1 φ1 R1 S1 V1 => ?_)
  obtain ⟨a1, cvs1, rfl, p1, _⟩ := R1.items g0 V1
  refine getMethod_list_of F.slot_list_count F.type_list_count p1.isList (plain_noDict p1) ?_
  refine P.count_list (ib.go h6 g2 (c.step R1 S1) fun c2 s2 φ2 R2 S2 V2 => V2.int_el fun t => ?_)
  obtain ⟨a2, cvs2, e2, ⟨n2, p2⟩, v2⟩ := R2.items g3 (S2.vrep V1)
  cases e2
  have hi := v2.ints g4
  refine ⟨cvs2.toArray, n2, isInt k, p2, fun z hz => eq_isInt k t hi z (by simpa using hz), ?_⟩
  rw [show cvs2.toArray.toList = cvs2 from rfl, countP_isInt k hi]
  exact Post.trans (S1.trans S2) (Post.int R2 _ _ _)

theorem snd_sliceFrom {a : Ex} {lo : Int} (ia : SndE prog T cf inits D U a) : SndE prog T cf inits D U (.sliceFrom a lo) := by
  intro vars env ρ e H H' u φ s A hck hev c
  refine eS_el e hck fun x y pos hck => and_el hck fun hck q => ob_el hev fun y1 H1 g1 hev => oo_el hev fun vs g2 hev => og_el hev fun g3 hev => sm_el hev ?_
  revert hck
  refine eN_el x q fun x p q => eSl_el y q fun l h t q4 q => bv_el l q fun l q => eC_el l q fun k q1 q2 q => and_el q fun k0 q => and_el q fun k1 k2 => ?_
  cases (of_decide_eq_true k0 : k = .int lo)
  cases Option.isNone_iff_eq_none.mp k1
  cases Option.isNone_iff_eq_none.mp k2
  intro hck
  replace g3 := of_decide_eq_true g3
  refine wpAny_Subscript_list_slice (ia.go hck g1 c fun c1 s1 φ1 R1 S1 V1 => ?_)
  refine wpAny_Constant_int (k := q1) (pos := q2) ?_
  refine wpAny_pure ?_
  obtain ⟨l, cvs, rfl, p1, v1⟩ := R1.items g2 V1
  have hlen := v1.length
  refine ⟨l, cvs.toArray, some lo, none, rfl, p1.isList, by rw [List.size_toArray, sizeLine_eq]; omega, .int _ s1.toks, .none, ?_⟩
  have e1 : slicePick cvs.toArray (some lo) none none = (cvs.drop lo.toNat).toArray := by
    have := slicePick_from' cvs.toArray lo.toNat
    rw [Int.toNat_of_nonneg g3.1] at this
    simpa using this
  rw [e1]
  have R2 := R1.grow (h' := s1.heap.push { cls := .type "slice", data := .fields #[.int lo s1.toks, .none, .none] }) (fun _ _ e => Heap.get?_push_of_some _ e) (s1.toks + 1)
  have S2 : Step NoX φ1 H1 s1.heap φ1 H1 (s1.heap.push { cls := .type "slice", data := .fields #[.int lo s1.toks, .none, .none] }) := Step.grow fun _ _ e => Heap.get?_push_of_some _ e
  have := R2.push_lst (X := NoX) ((S2.vreps v1).drop lo.toNat) (s1.toks + 1)
  refine Post.trans (s1 := { s1 with heap := s1.heap.push { cls := .type "slice", data := .fields #[.int lo s1.toks, .none, .none] }, toks := s1.toks + 1 }) (S1.trans S2) ?_
  simpa [Heap.size_push] using this
end
end Mine
end

section
set_option maxRecDepth 100000
open PySem PySem.W PyProof.Rows
namespace Mine

noncomputable def freeCl (env : PySem.Env) : List (Str × NameKind) → List (Str × Addr) → List (Str × Addr)
  | [], cs => cs
  | (n, k) :: r, cs => if k == .free then freeCl env r ((n, (env.cells.lookup n).getD 0) :: cs) else freeCl env r cs

theorem freeCl_forIn (env : PySem.Env) : ∀ (names : List (Str × NameKind)) (cs : List (Str × Addr)), (∀ y ∈ names, y.2 = .free → ∃ c, env.cells.lookup y.1 = some c) →
    (forIn (m := Sem) names cs fun (x : Str × NameKind) (cs : List (Str × Addr)) => if (x.2 == NameKind.free) = true then do let a ← cellOf env x.1; pure (ForInStep.yield ((x.1, a) :: cs)) else pure (ForInStep.yield cs)) = pure (freeCl env names cs)
  | [], cs, _ => by simp [freeCl]
  | (n, k) :: r, cs, h => by
    have ih := fun cs => freeCl_forIn env r cs fun y hy => h y (by simp [hy])
    rw [List.forIn_cons]
    by_cases hk : (k == NameKind.free) = true
    · obtain ⟨c, hc⟩ := h (n, k) (by simp) (by simpa using hk)
      simp only [hk, if_true, cellOf, hc, freeCl, Option.getD_some, pure_bind]
      exact ih _
    · simp only [hk, freeCl, pure_bind, Bool.false_eq_true, if_false]
      exact ih _

theorem closure_ok {scope : Scope} {env : PySem.Env} (h : ∀ y ∈ scope.names, y.2 = .free → ∃ c, env.cells.lookup y.1 = some c) : closureFor scope env = pure (freeCl env scope.names []) := by
  unfold closureFor
  have := freeCl_forIn env scope.names [] h
  simpa using this

theorem freeCl_mem {env : PySem.Env} : ∀ {names : List (Str × NameKind)} {cs : List (Str × Addr)}, (∀ y ∈ names, y.2 = .free → ∃ c, env.cells.lookup y.1 = some c) → (∀ p ∈ cs, env.cells.lookup p.1 = some p.2) → ∀ p ∈ freeCl env names cs, env.cells.lookup p.1 = some p.2
  | [], cs, _, h2, p, hp => h2 p hp
  | (n, k) :: r, cs, h1, h2, p, hp => by
    unfold freeCl at hp
    split at hp
    · rename_i hk
      obtain ⟨c, hc⟩ := h1 (n, k) (by simp) (by simpa using hk)
      refine freeCl_mem (fun y hy => h1 y (by simp [hy])) (fun q hq => ?_) p hp
      rcases List.mem_cons.mp hq with rfl | hq
      · simp [hc]
      · exact h2 q hq
    · exact freeCl_mem (fun y hy => h1 y (by simp [hy])) h2 p hp
theorem freeCl_old {env : PySem.Env} : ∀ {names : List (Str × NameKind)} {cs : List (Str × Addr)} {p : Str × Addr}, p ∈ cs → p ∈ freeCl env names cs
  | [], cs, p, h => h
  | (n, k) :: r, cs, p, h => by
    unfold freeCl
    split
    · exact freeCl_old (by simp [h])
    · exact freeCl_old h
theorem freeCl_has {env : PySem.Env} : ∀ {names : List (Str × NameKind)} {cs : List (Str × Addr)} {x : Str}, (x, NameKind.free) ∈ names → ∃ a, (x, a) ∈ freeCl env names cs
  | (n, k) :: r, cs, x, h => by
    unfold freeCl
    rcases List.mem_cons.mp h with h | h
    · cases h
      simp only [beq_self_eq_true, if_true]
      exact ⟨_, freeCl_old (List.mem_cons_self)⟩
    · split
      · exact freeCl_has h
      · exact freeCl_has h
theorem lookup_mem' {α : Type} : ∀ {l : List (Str × α)} {x : Str} {a : α}, l.lookup x = some a → (x, a) ∈ l
  | (n, b) :: r, x, a, h => by
    rw [List.lookup_cons] at h
    split at h
    · rename_i hx; cases h; rw [beq_iff_eq] at hx; subst hx; simp
    · simp [lookup_mem' h]
theorem lookup_of_mem {α : Type} : ∀ {l : List (Str × α)} {x : Str} {a : α}, (x, a) ∈ l → ∃ b, l.lookup x = some b
  | (n, b) :: r, x, a, h => by
    rw [List.lookup_cons]
    split
    · exact ⟨_, rfl⟩
    · rename_i hx
      rcases List.mem_cons.mp h with h | h
      · cases h; simp at hx
      · exact lookup_of_mem h

theorem relab_eq (env : PySem.Env) (scope : Scope) : relab env.scope scope = relabel scope env := rfl
theorem relabel_free {env : PySem.Env} (hk : env.scope.kind = .function) {x : Str} (hc : env.kindOf x = some .cell) : ∀ {names : List (Str × NameKind)}, names.lookup x = some .free →
    (names.map fun (n, k) => if (k == NameKind.free && env.scope.kind == .function && env.kindOf n == some .cell) then (n, NameKind.cell) else (n, k)).lookup x = some .cell
  | [], h => by simp at h
  | (n, k) :: r, h => by
    have ih := @relabel_free env hk x hc r
    show List.lookup x ((if (k == NameKind.free && env.scope.kind == .function && env.kindOf n == some .cell) = true then (n, NameKind.cell) else (n, k)) :: _) = _
    cases hx : x == n with
    | true =>
      simp only [List.lookup_cons, hx] at h
      cases h
      have := (beq_iff_eq.mp hx)
      subst this
      simp [List.lookup_cons, hk, hc]
    | false =>
      simp only [List.lookup_cons, hx] at h
      by_cases hq : (k == NameKind.free && env.scope.kind == .function && env.kindOf n == some .cell) = true
      · rw [if_pos hq]; simp only [List.lookup_cons, hx]; exact ih h
      · rw [if_neg hq]; simp only [List.lookup_cons, hx]; exact ih h
theorem relabel_cell {env : PySem.Env} {x : Str} : ∀ {names : List (Str × NameKind)}, (∀ y ∈ names, y.2 ≠ .cell) →
    (names.map fun (n, k) => if (k == NameKind.free && env.scope.kind == .function && env.kindOf n == some .cell) then (n, NameKind.cell) else (n, k)).lookup x = some .cell → (x, NameKind.free) ∈ names
  | [], _, h => by simp at h
  | (n, k) :: r, hn, h => by
    have ih := @relabel_cell env x r (fun y hy => hn y (by simp [hy]))
    have h : List.lookup x ((if (k == NameKind.free && env.scope.kind == .function && env.kindOf n == some .cell) = true then (n, NameKind.cell) else (n, k)) :: _) = _ := h
    by_cases hq : (k == NameKind.free && env.scope.kind == .function && env.kindOf n == some .cell) = true
    · rw [if_pos hq] at h
      simp only [Bool.and_eq_true, beq_iff_eq] at hq
      cases hx : x == n with
      | true =>
        have := (beq_iff_eq.mp hx)
        subst this
        rw [hq.1.1]; exact List.mem_cons_self
      | false =>
        simp only [List.lookup_cons, hx] at h
        exact List.mem_cons_of_mem _ (ih h)
    · rw [if_neg hq] at h
      cases hx : x == n with
      | true =>
        simp only [List.lookup_cons, hx, Option.some.injEq] at h
        exact absurd h (hn (n, k) (by simp))
      | false =>
        simp only [List.lookup_cons, hx] at h
        exact List.mem_cons_of_mem _ (ih h)

theorem nodupS_nodup : ∀ {l : List Str}, nodupS l = true → l.Nodup
  | [], _ => List.nodup_nil
  | x :: r, h => by
    simp only [nodupS, Bool.and_eq_true, Bool.not_eq_true', List.contains_eq_mem, decide_eq_false_iff_not] at h
    exact List.nodup_cons.mpr ⟨h.1, nodupS_nodup h.2⟩

structure CompSc (sc scope : Scope) (tn cs : List Str) : Prop where
  kind : scope.kind = .function
  nocell : ∀ y ∈ scope.names, y.2 ≠ .cell
  loc : ∀ y ∈ scope.names, y.2 = .local → scope.names.lookup y.1 = some .local
  free : ∀ y ∈ scope.names, y.2 = .free → sc.kind = .function ∧ sc.names.lookup y.1 = some .cell
  tns : ∀ x ∈ tn, scope.names.lookup x = some .local
  css : ∀ x ∈ cs, scope.names.lookup x = some .free
  dbg : ∀ x ∈ tn ++ cs, (x == ("__debug__" : Str)) = false
theorem compSc_of {sc scope : Scope} {tn cs : List Str} (h : ckScope sc scope tn cs = true) : CompSc sc scope tn cs := by
  unfold ckScope at h
  simp only [Bool.and_eq_true, List.all_eq_true, beq_iff_eq, bne_iff_ne, ne_eq, Bool.or_eq_true] at h
  obtain ⟨⟨⟨⟨h1, h2⟩, h3⟩, h4⟩, h5⟩ := h
  refine ⟨h1, fun y hy => (h2 y hy).1.1, fun y hy q => ?_, fun y hy q => ?_, h3, h4, fun x hx => ?_⟩
  · rcases (h2 y hy).1.2 with r | r
    · exact absurd q r
    · exact r
  · rcases (h2 y hy).2 with r | r
    · exact absurd q r
    · exact r
  · have := h5 x hx
    exact beq_eq_false_iff_ne.mpr this

section
variable {T : Tabs} {φ : List Plc} {H : AH} {h : Heap} {s : Shared} {env : PySem.Env} {vars : List Str} {ρ : Vars} {scope : Scope} {tn cs : List Str}

theorem compEnv_ok (K : EnvOk T env vars) (S : CompSc env.scope scope tn cs) (hnd : nodupS (tn ++ cs) = true) {C : Addr} (hC : T.B.get? C = none) : EnvOk T (compEnvC scope (freeCl env scope.names []) C env) (tn ++ cs) := by
  have hfree : ∀ y ∈ scope.names, y.2 = .free → ∃ c, env.cells.lookup y.1 = some c := fun y hy q => K.ca y.1 (S.free y hy q).2
  have hcl : ∀ x c, (freeCl env scope.names []).lookup x = some c → env.cells.lookup x = some c := fun x c e => freeCl_mem hfree (by intro p hp; cases hp) (x, c) (lookup_mem' e)
  have hk : env.scope.kind = .function := K.kind
  refine ⟨S.kind, K.glob, K.blt, nodupS_nodup hnd, fun x hx => ⟨S.dbg x hx, ?_⟩, hC, fun x c e => K.cellB x c (hcl x c e), fun x y c e1 e2 => K.apart x y c (hcl x c e1) (hcl y c e2), fun x hx => ?_⟩
  · rcases List.mem_append.mp hx with hx | hx
    · exact .inl (lookup_relabel_local (S.tns x hx))
    · have hf := S.css x hx
      have hm := lookup_mem' hf
      refine .inr ⟨relabel_free hk (S.free _ hm rfl).2 hf, ?_⟩
      obtain ⟨a, ha⟩ := freeCl_has (env := env) (cs := []) hm
      exact lookup_of_mem ha
  · obtain ⟨a, ha⟩ := freeCl_has (env := env) (cs := []) (relabel_cell S.nocell hx)
    exact lookup_of_mem ha

noncomputable def rho0 (nt : Nat) (caps : List Nat) (ρ : Vars) : Vars := List.replicate nt none ++ caps.map fun i => (ρ[i]?).join

theorem capNames_get : ∀ {vs : List Str} {caps : List Nat} {cs : List Str}, capNames vs caps = some cs → cs.length = caps.length ∧ ∀ (j i : Nat), caps[j]? = some i → ∃ x, cs[j]? = some x ∧ vs[i]? = some x
  | vs, [], cs, e => by simp [capNames] at e; subst e; exact ⟨rfl, fun j i h => by simp at h⟩
  | vs, k :: r, cs, e => by
    unfold capNames at e
    split at e
    · rename_i x hx
      obtain ⟨cs', e1, rfl⟩ := Option.map_eq_some_iff.mp e
      obtain ⟨h1, h2⟩ := capNames_get e1
      refine ⟨by simp [h1], fun j i hj => ?_⟩
      cases j with
      | zero => simp at hj; subst hj; exact ⟨x, rfl, hx⟩
      | succ j => simp at hj; exact h2 j i hj
    · cases e

theorem compFrame_ok (R : Rep T φ H s) (K : EnvOk T env vars) (F : Frame φ H s.heap env vars ρ) (S : CompSc env.scope scope tn cs) {nt : Nat} {caps : List Nat} (hnt : tn.length = nt) (hcs : capNames vars caps = some cs) {C : Addr} {m : Str → Option Value} (hn : s.heap.Ns C m) (hCo : ¬ Own φ H C) :
    Frame φ H s.heap (compEnvC scope (freeCl env scope.names []) C env) (tn ++ cs) (rho0 nt caps ρ) := by
  obtain ⟨hl, hg⟩ := capNames_get hcs
  have hfree : ∀ y ∈ scope.names, y.2 = .free → ∃ c, env.cells.lookup y.1 = some c := fun y hy q => K.ca y.1 (S.free y hy q).2
  have hcl : ∀ x c, (freeCl env scope.names []).lookup x = some c → env.cells.lookup x = some c := fun x c e => freeCl_mem hfree (by intro p hp; cases hp) (x, c) (lookup_mem' e)
  have split : ∀ (i : Nat) (x : Str) (v : PV), (tn ++ cs)[i]? = some x → (rho0 nt caps ρ)[i]? = some (some v) → ∃ j : Nat, vars[j]? = some x ∧ ρ[j]? = some (some v) ∧ x ∈ cs := by
    intro i x v h1 h2
    by_cases hi : i < nt
    · unfold rho0 at h2
      rw [List.getElem?_append_left (by simp; exact hi)] at h2
      rw [List.getElem?_replicate] at h2
      split at h2 <;> cases h2
    · unfold rho0 at h2
      rw [List.getElem?_append_right (by simp; lia)] at h2
      rw [List.getElem?_append_right (by lia)] at h1
      simp only [List.length_replicate, List.getElem?_map, Option.map_eq_some_iff] at h2
      obtain ⟨k, h3, h4⟩ := h2
      obtain ⟨x', h5, h6⟩ := hg _ _ h3
      rw [hnt, h5] at h1; cases h1
      refine ⟨k, h6, ?_, List.mem_of_getElem? h5⟩
      cases q : ρ[k]? with
      | none => rw [q] at h4; cases h4
      | some o => rw [q] at h4; simp at h4; rw [h4]
  refine ⟨by simp [rho0, hnt, hl], hCo, ⟨m, hn, fun i x v h1 h2 h3 => ?_⟩, fun x c hc => ?_⟩
  · obtain ⟨j, _, _, hx⟩ := split i x v h1 h3
    have hf := S.css x hx
    have := relabel_free K.kind (S.free _ (lookup_mem' hf) rfl).2 hf
    have h2' : (compEnvC scope (freeCl env scope.names []) C env).kindOf x = some .cell := this
    rw [h2'] at h2; cases h2
  · obtain ⟨ov, h1, h2⟩ := F.cells x c (hcl x c hc)
    refine ⟨ov, h1, fun i v g1 g2 g3 => ?_⟩
    obtain ⟨j, k1, k2, hx⟩ := split i x v g1 g3
    exact h2 j v k1 (S.free _ (lookup_mem' (S.css x hx)) rfl).2 k2

theorem Frame.weaken {ρ' : Vars} (F : Frame φ H h env vars ρ') (hl : ρ.length = ρ'.length) (hw : ∀ (i : Nat) (v : PV), ρ[i]? = some (some v) → ρ'[i]? = some (some v)) : Frame φ H h env vars ρ := by
  obtain ⟨m, h1, h2⟩ := F.ns
  refine ⟨hl.trans F.len, F.own, ⟨m, h1, fun i x v g1 g2 g3 => h2 i x v g1 g2 (hw i v g3)⟩, fun x c hc => ?_⟩
  obtain ⟨ov, k1, k2⟩ := F.cells x c hc
  exact ⟨ov, k1, fun i v g1 g2 g3 => k2 i v g1 g2 (hw i v g3)⟩

theorem setAll_keeps : ∀ {is : List Nat} {vs : List PV} {ρ ρ' : Vars}, setAll is vs ρ = some ρ' → ρ'.length = ρ.length ∧ ∀ i : Nat, i ∉ is → ρ'[i]? = ρ[i]?
  | [], [], _, _, h => so_el h ⟨rfl, fun _ _ => rfl⟩
  | [], _ :: _, _, _, h => nse h
  | j :: is, vs, ρ, ρ', h => oc_el h fun v vs _ h => og_el h fun _ h => by
    obtain ⟨h1, h2⟩ := setAll_keeps h
    exact ⟨h1.trans List.length_set, fun i hi => (h2 i fun q => hi (.tail _ q)).trans (List.getElem?_set_ne (by rintro rfl; exact hi (.head _)))⟩
theorem bindT_keeps {ts : List Nat} {v : PV} {ρ ρ' : Vars} (h : bindT ts v ρ = some ρ') : ρ'.length = ρ.length ∧ ∀ i : Nat, i ∉ ts → ρ'[i]? = ρ[i]? := by
  rcases ts with _ | ⟨j, _ | ⟨k, r⟩⟩
  · exact ot_el h fun vs _ h => setAll_keeps h
  · exact og_el h fun _ h => so_el h ⟨List.length_set, fun i hi => List.getElem?_set_ne (by rintro rfl; exact hi (.head _))⟩
  · exact ot_el h fun vs _ h => setAll_keeps h
theorem rho0_weaker {nt : Nat} {caps : List Nat} {v : PV} {ρ' : Vars} (h : bindT (List.range nt) v (rho0 nt caps ρ) = some ρ') : (rho0 nt caps ρ).length = ρ'.length ∧ ∀ (i : Nat) (u : PV), (rho0 nt caps ρ)[i]? = some (some u) → ρ'[i]? = some (some u) := by
  obtain ⟨h1, h2⟩ := bindT_keeps h
  refine ⟨h1.symm, fun i u hu => ?_⟩
  by_cases hi : i < nt
  · unfold rho0 at hu
    rw [List.getElem?_append_left (by simp; exact hi), List.getElem?_replicate] at hu
    split at hu <;> cases hu
  · rw [h2 i (by simp; lia)]; exact hu
end

theorem source_stays {H0 H : AH} {v : PV} {vs : List PV} (e : source H0 v = some vs) (h : stays v vs H = true) : source H v = some vs := by
  cases v with
  | loc l =>
    show (match H[l]? with | some (.list vs) => some vs | _ => none) = some vs
    rw [@of_decide_eq_true _ (Classical.propDecidable _) h]
  | _ => exact e
end Mine
end

section
set_option maxRecDepth 100000
open PySem PySem.W PyProof.Rows
namespace Mine

section
variable (prog : Program) (T : Tabs) (cf : CallF) (inits : List Nat) (D U : Nat)
noncomputable def testsOf (es : List Expr) (env : PySem.Env) : Sem Bool :=
  forIn es true fun c r => if r = true then do let ok ← isTrue c env (eval c env); pure (ForInStep.yield ok) else pure (ForInStep.yield r)
noncomputable def SndTests (xs : Exs) : Prop := ∀ (vars : List Str) (env : PySem.Env) (ρ : Vars) (es : List Expr) (H H' : AH) (b : Bool) (φ : List Plc) (s : Shared) (A : Around),
  ckEs T.N vars env.scope xs es = true → evTests cf inits T.globs ρ xs H = some (b, H') → Cond T D U vars env ρ φ H s A →
  wpAny (model prog T.w) A (testsOf es env) (PostB T φ H s b H') NoE s
end

section
variable {prog : Program} {T : Tabs} {cf : CallF} {inits : List Nat} {D U : Nat}
theorem SndTests.go {xs : Exs} (ix : SndTests prog T cf inits D U xs) {vars : List Str} {env : PySem.Env} {ρ : Vars} {es : List Expr} {H H1 : AH} {b : Bool} {φ : List Plc} {s : Shared} {A : Around} {E : Value → Shared → Prop} {Q : Bool → Shared → Prop}
    (h1 : ckEs T.N vars env.scope xs es = true) (h2 : evTests cf inits T.globs ρ xs H = some (b, H1)) (c : Cond T D U vars env ρ φ H s A)
    (k : ∀ s1 φ1, Rep T φ1 H1 s1 → Step NoX φ H s.heap φ1 H1 s1.heap → Q b s1) : wpAny (model prog T.w) A (testsOf es env) Q E s :=
  wpAny_mono (ix vars env ρ es H H1 b φ s A h1 h2 c) (fun _ s1 ⟨e, φ1, R1, S1⟩ => e ▸ k s1 φ1 R1 S1) fun _ _ f => f.elim
theorem snd_tests_nil : SndTests prog T cf inits D U .nil := by
  intro vars env ρ es H H' b φ s A hck hev c
  exact em_el es hck (sm_el hev (wpAny_tests_nil ⟨rfl, φ, c.rep, Step.refl ..⟩))
theorem snd_tests_cons {a : Ex} {r : Exs} (ia : SndT prog T cf inits D U a) (ir : SndTests prog T cf inits D U r) : SndTests prog T cf inits D U (.cons a r) := by
  intro vars env ρ es H H' b φ s A hck hev c
  refine bc_el es hck fun e es hck => and_el hck fun k1 k2 => ob_el hev fun t H1 h1 hev => ?_
  unfold testsOf
  simp only [List.forIn_cons, if_true]
  refine wpAny_bind (wpAny_bind (ia.go k1 h1 c fun s1 φ1 R1 S1 => wpAny_pure ?_))
  cases t with
  | false =>
    cases r with
    | cons => exact nse hev
    | nil => exact em_el es k2 (sm_el hev (wpAny_pure ⟨rfl, φ1, R1, S1⟩))
  | true => exact wpAny_mono (ir vars env ρ es H1 H' b φ1 s1 A k2 hev (c.step R1 S1)) (fun _ _ h3 => PostB.trans S1 h3) fun _ _ f => f

theorem comp_turn {w : World} {A : Around} {s : Shared} {elt target iter : Expr} {ifs : List Expr} {scope : Scope} {pos : Pos} {it acc : Value} {env : PySem.Env} {R : Result → Shared → Prop}
    (h : wpAny (model prog w) A (pyNext it) (fun r s₁ => match r with
      | none => R (.ok .next) s₁
      | some v => wpAny (model prog w) A (letOwnedTupleGo target it v) (fun _ s₀ => wpAny (model prog w) A (assign target env v) (fun _ s₂ =>
          wpAny (model prog w) A (testsOf ifs env) (fun ok s₃ => if ok = true then wpAny (model prog w) A (eval elt env) (fun x s₄ =>
            wpAny (model prog w) A (call (.builtin "list.append") [acc, x]) (fun _ s₅ => codeAny (model prog w) A (.compLoop (.ListComp elt [⟨target, iter, ifs, 0⟩] scope pos) 0 it acc env) R s₅) NoE s₄) NoE s₃
            else codeAny (model prog w) A (.compLoop (.ListComp elt [⟨target, iter, ifs, 0⟩] scope pos) 0 it acc env) R s₃) NoE s₂) NoE s₀) NoE s₁) NoE s) :
    codeAny (model prog w) A (.compLoop (.ListComp elt [⟨target, iter, ifs, 0⟩] scope pos) 0 it acc env) R s := by
  refine codeAny_of_tree ?_
  show wpAny _ A ((compTurn (.ListComp elt [⟨target, iter, ifs, 0⟩] scope pos) 0 it acc env).onRaise (fun x => do noteFrame x env; theTreesLotGoes x)) _ _ s
  refine wpAny_noted ?_
  rw [compTurn_list]
  refine wpAny_bind (wpAny_standAt (wpAny_bind (wpAny_mono h (fun r s₁ h₁ => ?_) fun _ _ f => f.elim)))
  cases r with
  | none => exact wpAny_pure h₁
  | some v =>
    refine wpAny_bind (wpAny_mono h₁ (fun _ s₀ h₀' => ?_) fun _ _ f => f.elim)
    refine wpAny_bind (wpAny_mono h₀' (fun _ s₂ h₂ => ?_) fun _ _ f => f.elim)
    refine wpAny_bind (wpAny_mono h₂ (fun okb s₃ h₃ => ?_) fun _ _ f => f.elim)
    cases okb with
    | false => exact wpAny_pure ⟨rfl, h₃⟩
    | true => exact wpAny_bind (wpAny_bind (wpAny_mono h₃ (fun x s₄ h₄ => wpAny_bind (wpAny_mono h₄ (fun _ s₅ h₅ => wpAny_pure (wpAny_pure ⟨rfl, h₅⟩)) fun _ _ f => f.elim)) fun _ _ f => f.elim))

theorem drop_nil {vs : List PV} {i : Nat} (h : vs.drop i = []) (hi : i ≤ vs.length) : i = vs.length := Nat.le_antisymm hi (List.drop_eq_nil_iff.mp h)
theorem drop_cons {vs : List PV} {i : Nat} {v : PV} {r : List PV} (h : vs.drop i = v :: r) : vs[i]? = some v ∧ i < vs.length ∧ vs.drop (i + 1) = r := by
  have h1 : vs[i]? = some v := by
    have := congrArg (·[0]?) h
    simpa using this
  refine ⟨h1, (List.getElem?_eq_some_iff.mp h1).1, ?_⟩
  have := congrArg (List.drop 1) h
  simpa [List.drop_drop, Nat.add_comm] using this
theorem comp_loop {elt : Ex} {conds : Exs} (ie : SndE prog T cf inits D U elt) (ic : SndTests prog T cf inits D U conds) {A : Around} {cenv : PySem.Env} {tv tn : List Str} {nt : Nat} {ρ0 : Vars} {x t it : Expr} {ifs : List Expr} {scope : Scope} {pos : Pos}
    (KE : EnvOk T cenv tv) (ht : targets t = some tn) (hst : ckStore tv (List.range nt) tn = true) (hloc : ∀ y ∈ tn, cenv.kindOf y = some .local) (hck : ckE T.N tv cenv.scope elt x = true) (hcks : ckEs T.N tv cenv.scope conds ifs = true)
    (hρ : ∀ (v : PV) (ρ' : Vars), bindT (List.range nt) v ρ0 = some ρ' → ρ0.length = ρ'.length ∧ ∀ (i : Nat) (u : PV), ρ0[i]? = some (some u) → ρ'[i]? = some (some u))
    (hh : A.handled = none) (hd : A.depth ≤ D) (hu : A.units ≤ U) {φ0 : List Plc} {H0 : AH} {h0 : Heap} {I Dl : Addr} (hI0 : h0.get? I = none) (hC0 : h0.get? cenv.locals = none) (hBI : T.B.get? I = none) (hCI : cenv.locals ≠ I)
    {Hs Hf : AH} {src : PV} {vs : List PV} (he0 : source Hs src = some vs) {l : Nat} {R : Result → Shared → Prop}
    (hfin : ∀ (φ' : List Plc) (s' : Shared), Rep T φ' Hf s' → Step NoX φ0 H0 h0 φ' Hf s'.heap → (∃ m, s'.heap.Ns cenv.locals m) → φ'[l]? = some ⟨Dl, Dl⟩ → ¬ Own φ' Hf cenv.locals → R (.ok .next) s') :
    ∀ (rest : List PV) (i : Nat) (H : AH) (φ : List Plc) (s : Shared), vs.drop i = rest → i ≤ vs.length →
      compGo l (stays src vs) (fun v => bindT (List.range nt) v ρ0) (fun ρ' H' => evTests cf inits T.globs ρ' conds H') (fun ρ' H' => evE cf inits T.globs ρ' elt H') rest H = some Hf →
      Rep T φ H s → Frame φ H s.heap cenv tv ρ0 → IterAt s.heap φ (Own φ H) I i src → φ[l]? = some ⟨Dl, Dl⟩ → Step NoX φ0 H0 h0 φ H s.heap →
      codeAny (model prog T.w) A (.compLoop (.ListComp x [⟨t, it, ifs, 0⟩] scope pos) 0 (.ref I) (.ref Dl) cenv) R s := by
  intro rest
  induction rest with
  | nil =>
    intro i H φ s hdr hi hgo hR hF hx hl hS
    refine og_el hgo fun hc e => comp_turn (iter_end hh (source_stays he0 hc) hR (drop_nil hdr hi ▸ hx) hBI fun s' R' he => ?_)
    cases e
    obtain ⟨m, hm, _⟩ := hF.ns
    exact hfin φ s' R' (hS.new1 hI0 he) ⟨m, hm.extBut he hCI⟩ hl hF.own
  | cons v rest ih =>
    intro i H φ s hdr hi hgo hR hF hx hl hS
    obtain ⟨hvi, hlt, hdr'⟩ := drop_cons hdr
    refine og_el hgo fun hc hgo => oo_el hgo fun ρ1 hb hgo => ob_el hgo fun t H3 ht3 hgo => comp_turn (iter_next (source_stays he0 hc) hvi hR hx hBI fun s1 c R1 hs1 x1 V1 => ?_)
    obtain ⟨o, nm, fs, k1, k2, k3, k4, k5⟩ := iter_cls hx
    obtain ⟨o', nm', fs', k1', _⟩ := iter_cls x1
    have F1 : Frame φ H s1.heap cenv tv ρ0 := hF.step hR (Step.at1 hs1 rfl (fun o2 e => by rw [k1] at e; cases e; exact k5) ⟨o', k1'⟩) (fun b hb q => by
      rcases hb with hb | ⟨y, hb⟩
      · exact hCI (hb.symm.trans q.symm)
      · obtain ⟨ov, ⟨oc, g1, g2⟩, _⟩ := hF.cells y b hb
        rw [← q, k1] at g1; cases g1; rw [k3] at g2; cases g2)
    refine letGo_ok x1 (bind_ok (X := fun b => b = cenv.locals) hh KE ht hst hb R1 F1 V1 rfl (fun y hy c' hk _ => by rw [hloc y hy] at hk; cases hk) fun s2 R2 F2 S2 => ?_)
    have S02 : Step NoX φ0 H0 h0 φ H s2.heap := Step.above (fun _ _ e => e) (fun b q => by rw [q]; exact hC0) ((hS.new1 hI0 hs1.extBut).noX.trans S2)
    have x2 : IterAt s2.heap φ (Own φ H) I (i + 1) src := x1.step S2 (not_own_of R1 x1) (fun q => hCI q.symm)
    have hw := hρ v ρ1 hb
    refine ic.go hcks ht3 ⟨hh, hd, hu, KE, R2, F2⟩ fun s3 φ3 R3 S3 => ?_
    have F3 := F2.step0 R2 S3
    have x3 : IterAt s3.heap φ3 (Own φ3 H3) I (i + 1) src := x2.step S3 (not_own_of R2 x2) fun q => q
    cases t with
    | false => exact ih (i + 1) H3 φ3 s3 hdr' hlt hgo R3 (F3.weaken hw.1 hw.2) x3 (S3.pre _ _ hl) (S02.trans S3)
    | true =>
      refine ob_el hgo fun y H4 he4 hgo => oL_el hgo fun acc hacc hgo => og_el hgo fun hsz hgo => ie.go hck he4 ⟨hh, hd, hu, KE, R3, F3⟩ fun cy s4 φ4 R4 S4 V4 => ?_
      obtain ⟨a, cvs, g1, g2, g3⟩ := R4.list_at hacc
      have hl4 : φ4[l]? = some ⟨Dl, Dl⟩ := S4.pre _ _ (S3.pre _ _ hl)
      rw [hl4] at g1; cases g1
      refine wpAny_list_append_plain g2 (fun h' hp hs => ?_) (by rw [List.size_toArray, g3.length]; exact sz_ok hsz)
      have hp' : h'.PlainList Dl (cvs ++ [cy]).toArray := by simpa using hp
      have S5 : Step NoX φ4 H4 s4.heap φ4 (H4.set l (.list (acc ++ [y]))) h' := Step.setList hl4 hacc hs (let ⟨n, e⟩ := hp'; ⟨_, e⟩)
      exact ih (i + 1) _ φ4 _ hdr' hlt hgo (R4.setList hl4 hacc hs hp' (g3.append (.cons V4 .nil)) s4.toks) (((F3.step0 R3 S4).step0 R4 S5).weaken hw.1 hw.2)
        ((x3.step S4 (not_own_of R3 x3) fun q => q).step S5 (not_own_of R4 (x3.step S4 (not_own_of R3 x3) fun q => q)) fun q => q) hl4 (((S02.trans S3).trans S4).trans S5)
end
end Mine
end

section
set_option maxRecDepth 100000
open PySem PySem.W PyProof.Rows
namespace Mine
section
variable {prog : Program} {T : Tabs} {cf : CallF} {inits : List Nat} {D U : Nat}

theorem range_store : ∀ {tn cs : List Str}, ckStore (tn ++ cs) (List.range tn.length) tn = true := by
  have : ∀ (tn pre cs : List Str), ckStore (pre ++ tn ++ cs) (List.range' pre.length tn.length) tn = true := by
    intro tn
    induction tn with
    | nil => intro pre cs; rfl
    | cons x r ih =>
      intro pre cs
      rw [yy0, List.range'_succ]
      refine Bool.and_eq_true_iff.mpr ⟨by simp, ?_⟩
      have := ih (pre ++ [x]) cs
      simpa using this
  intro tn cs
  have := this tn [] cs
  simpa [List.range_eq_range'] using this

theorem none_size (h : Heap) : h.get? h.objs.size = none := by
  cases q : h.get? h.objs.size with
  | none => rfl
  | some o => exact absurd (Heap.lt_size q) (Nat.lt_irrefl _)
theorem none_above {h : Heap} {a : Addr} (ha : h.objs.size ≤ a) : h.get? a = none := by
  cases q : h.get? a with
  | none => rfl
  | some o => exact absurd (Heap.lt_size q) (Nat.not_lt.mpr ha)

theorem iter_self {A : Around} {E : Value → Shared → Prop} {s : Shared} {w : World} {φ : List Plc} {own : Addr → Prop} {I : Addr} {i : Nat} {src : PV} {Q : Value → Shared → Prop} (x : IterAt s.heap φ own I i src) (h : Q (.ref I) s) : wpAny (model prog w) A (pyIter (.ref I)) Q E s := by
  cases src <;> simp only [IterAt] at x
  · obtain ⟨ax, cvs, h1, _⟩ := x
    exact wpAny_pyIter_tupleiter h1 h
  · obtain ⟨ax, cvs, h1, _⟩ := x
    exact wpAny_pyIter_listiter h1 h
  · exact wpAny_pyIter_rangeiter x h
  · obtain ⟨ax, h1, _⟩ := x
    exact wpAny_pyIter_listiter h1 h

@[elab_as_elim] theorem comp_el {P : List PySem.Comprehension → Prop} {N : Nms} {vs : List Str} {sc scope : Scope} {nt : Nat} {caps : List Nat} {elt iter : Ex} {conds : Exs} {x : Expr} {pos : Pos} (gs : List PySem.Comprehension) (h : ckE N vs sc (.comp nt caps elt iter conds) (.ListComp x gs scope pos) = true)
    (k : ∀ t it ifs tn cs, targets t = some tn → capNames vs caps = some cs → tn.length = nt → ckScope sc scope tn cs = true → nodupS (tn ++ cs) = true → ckE N vs sc iter it = true → ckE N (tn ++ cs) (relab sc scope) elt x = true → ckEs N (tn ++ cs) (relab sc scope) conds ifs = true → P [⟨t, it, ifs, 0⟩]) : P gs :=
  b1_el gs h fun g h => bg_el g h fun t it ifs h => bo_el h fun tn h1 h => bo_el h fun cs h2 h => and_el h fun q1 h => and_el h fun q2 h => and_el h fun q3 h => and_el h fun q4 h => and_el h fun q5 q6 => k t it ifs tn cs h1 h2 (of_decide_eq_true q1) q2 q3 q4 q5 q6
theorem comp_core {nt : Nat} {caps : List Nat} {elt iter : Ex} {conds : Exs} (ie : SndE prog T cf inits D U elt) (ii : SndE prog T cf inits D U iter) (ic : SndTests prog T cf inits D U conds)
    {vars : List Str} {env : PySem.Env} {ρ : Vars} {x t it : Expr} {ifs : List Expr} {scope : Scope} {pos p2 : Pos} {H H' : AH} {v : PV} {φ : List Plc} {s : Shared} {A : Around} {use : Option (Value → Sem Unit)} {Q : Value → Shared → Prop} {E : Value → Shared → Prop}
    {tn cs : List Str} (htn : targets t = some tn) (hcs : capNames vars caps = some cs) (q1 : tn.length = nt) (q2 : ckScope env.scope scope tn cs = true) (q3 : nodupS (tn ++ cs) = true) (q4 : ckE T.N vars env.scope iter it = true)
    (q5 : ckE T.N (tn ++ cs) (relab env.scope scope) elt x = true) (q6 : ckEs T.N (tn ++ cs) (relab env.scope scope) conds ifs = true) (hev : evE cf inits T.globs ρ (.comp nt caps elt iter conds) H = some (v, H')) (c : Cond T D U vars env ρ φ H s A)
    (hfin : ∀ (acc : Value) (C : Addr) (s' : Shared) (φ' : List Plc), Rep T φ' H' s' → Step NoX φ H s.heap φ' H' s'.heap → VRep s'.heap φ' (Own φ' H') v acc → s.heap.get? C = none → T.B.get? C = none → ¬ Own φ' H' C → (∃ m, s'.heap.Ns C m) →
      compPost (model prog T.w) A E use Q acc C (.ok .next) s') :
    wpAny (model prog T.w) A (comprehension (.ListComp x [⟨t, it, ifs, 0⟩] scope pos) scope env p2 (newList []) false (eval it env) use) Q E s := by
  refine ob_el hev fun src H1 h1 hev => oo_el hev fun vs h2 hev => og_el hev fun hlen hev => oo_el hev fun H2 hgo hev => oL_el hev fun xs hxs hev => ?_
  have S := compSc_of q2
  cases hev
  have hfree : ∀ y ∈ scope.names, y.2 = .free → ∃ c, env.cells.lookup y.1 = some c := fun y hy q => c.ke.ca y.1 (S.free y hy q).2
  refine wpAny_comprehension_free (use := use) rfl (fun _ => set_plain (ck_shape q4)) (closure_ok hfree) S.kind S.loc (ii.go q4 h1 c fun xv s1 φ1 R1 S1 V1 => ?_)
  have F1 := c.fr.step0 c.rep S1
  refine iter_start h2 R1 V1 fun s2 I R2 hk2 hI hIo x2 => ?_
  have hBI : T.B.get? I = none := by
    cases q : T.B.get? I with
    | none => rfl
    | some o => rw [R1.base I o q] at hI; cases hI
  have S2 : Step NoX φ1 H1 s1.heap φ1 H1 s2.heap := Step.grow hk2
  have F2 := F1.step0 R1 S2
  refine wpAny_newObj_type ?_
  obtain ⟨φ3, R3, S3, V3⟩ := R2.push_list (X := NoX) (vs := []) (cvs := []) .nil s2.toks
  unfold VRep at V3
  obtain ⟨sl, hl3, hsl⟩ := V3
  have F3 := F2.step0 R2 S3
  refine wpAny_newFunctionEnv S.nocell (by intro y hy; simp at hy) (fun h4 hns4 hsb4 => ?_) S.kind
  dsimp only at hns4 hsb4 hl3 R3 S3 F3 ⊢
  generalize hH3 : s2.heap.push { cls := .type "list", dict := none, data := .seq ([] : List Value).toArray } = hp3 at hns4 hsb4 R3 S3 F3 ⊢
  have hC3 : hp3.objs.size = s2.heap.objs.size + 1 := by rw [← hH3, Heap.size_push]
  have hk4 : ∀ b o, hp3.get? b = some o → h4.get? b = some o := fun b o e => hsb4.extBut b o (Nat.ne_of_lt (Heap.lt_size e)) (Heap.get?_push_of_some _ e)
  have S4 : Step NoX φ3 (H1 ++ [.list []]) hp3 φ3 (H1 ++ [.list []]) h4 := Step.grow hk4
  have R4 : Rep T φ3 (H1 ++ [.list []]) { s2 with heap := h4, toks := s2.toks + ([] : List (Str × Value)).length } := R3.grow hk4 _
  have F4 := F3.step0 R3 S4
  have hCown : ¬ Own φ3 (H1 ++ [.list []]) hp3.objs.size := fun q => Nat.lt_irrefl _ (R3.own_lt q)
  have hC1 : s1.heap.get? hp3.objs.size = none := by
    cases q : s1.heap.get? hp3.objs.size with
    | none => rfl
    | some o =>
      have hq := hk2 _ _ q
      have hq' : (s2.heap.push { cls := .type "list", dict := none, data := .seq ([] : List Value).toArray }).get? hp3.objs.size = some o := Heap.get?_push_of_some _ hq
      rw [hH3] at hq'
      exact absurd (Heap.lt_size hq') (Nat.lt_irrefl _)
  have hCs : s.heap.get? hp3.objs.size = none := by
    cases q : s.heap.get? hp3.objs.size with
    | none => rfl
    | some o => obtain ⟨o', e⟩ := S1.pres _ o q; rw [hC1] at e; cases e
  have hBC : T.B.get? hp3.objs.size = none := by
    cases q : T.B.get? hp3.objs.size with
    | none => rfl
    | some o => have := c.rep.base _ o q; rw [hCs] at this; cases this
  have x3 : IterAt hp3 φ3 (Own φ3 (H1 ++ [.list []])) I 0 src := x2.step S3 hIo fun q => q
  have x4 : IterAt h4 φ3 (Own φ3 (H1 ++ [.list []])) I 0 src := x3.step S4 (not_own_of R3 x3) fun q => q
  have hIC : hp3.objs.size ≠ I := by
    obtain ⟨o, nm, fs, k1, _⟩ := iter_cls x3
    exact Nat.ne_of_gt (Heap.lt_size k1)
  have KC := compEnv_ok c.ke S q3 hBC
  have FC := compFrame_ok (caps := caps) R4 c.ke F4 S q1 hcs hns4 hCown
  have hacc : Value.ref s2.heap.objs.size = .ref sl.a := hsl
  have hsle : sl = ⟨s2.heap.objs.size, s2.heap.objs.size⟩ := by
    obtain ⟨a', cvs', e1, _⟩ := R3.list_at (l := H1.length) (vs := []) (by simp)
    rw [hl3] at e1; cases e1
    cases hacc; rfl
  have loop : codeAny (model prog T.w) A (.compLoop (.ListComp x [⟨t, it, ifs, 0⟩] scope pos) 0 (.ref I) (.ref s2.heap.objs.size) (compEnvC scope (freeCl env scope.names []) hp3.objs.size env))
      (compPost (model prog T.w) A E use Q (.ref s2.heap.objs.size) hp3.objs.size) { s2 with heap := h4, toks := s2.toks + ([] : List (Str × Value)).length } := by
    refine comp_loop (Dl := s2.heap.objs.size) (l := H1.length) (φ0 := φ1) (H0 := H1) (h0 := s1.heap) (Hs := H1) (Hf := H2) ie ic KC htn (nt := nt) (ρ0 := rho0 nt caps ρ) (by rw [← q1]; exact range_store) (fun y hy => lookup_relabel_local (S.tns y hy)) q5 q6
      (fun v ρ' hb => rho0_weaker hb) c.hh c.dep c.un hI hC1 hBI hIC h2 ?_ vs 0 _ φ3 _ (List.drop_zero) (Nat.zero_le _) hgo R4 FC x4 (by rw [← hsle]; exact hl3) ((S2.trans S3).trans S4)
    intro φ' s' R' S' hn' hl' hno
    have V' : VRep s'.heap φ' (Own φ' H2) (.loc H1.length) (.ref s2.heap.objs.size) := by unfold VRep; exact ⟨_, hl', rfl⟩
    have S'' : Step NoX φ H s.heap φ' (H2.set H1.length .dead) s'.heap := (S1.trans S').trans Step.freeze
    exact hfin _ _ s' φ' R'.freeze S'' (VRep.freeze R' hxs V') hCs hBC (fun q => hno q.set_dead) hn'
  exact codeAny_compStart_list loop (iter_self x4 loop)
end
end Mine
end

section
set_option maxRecDepth 100000
open PySem PySem.W PyProof.Rows
namespace Mine
section
variable {prog : Program} {T : Tabs} {cf : CallF} {inits : List Nat} {D U : Nat}

theorem vrep_but {h h' : Heap} {φ : List Plc} {own : Addr → Prop} {C : Addr} {m : Str → Option Value} {v : PV} {c : Value} (hn : h.Ns C m) (hs : Heap.SameBut C h h') (x : VRep h φ own v c) : VRep h' φ own v c :=
  x.mono (fun _ _ e => e) (fun b o e _ f => hs.extBut b o (by rintro rfl; rw [ns_frz hn o e] at f; cases f) e) (fun _ _ _ q => q)

theorem snd_comp {nt : Nat} {caps : List Nat} {elt iter : Ex} {conds : Exs} (ie : SndE prog T cf inits D U elt) (ii : SndE prog T cf inits D U iter) (ic : SndTests prog T cf inits D U conds) : SndE prog T cf inits D U (.comp nt caps elt iter conds) := by
  intro vars env ρ e H H' u φ s A hck hev c
  refine eLc_el e hck fun x gs scope pos hck => ?_
  replace hck : ckE T.N vars env.scope (.comp nt caps elt iter conds) (.ListComp x gs scope pos) = true := hck
  refine comp_el gs hck fun t it ifs tn cs htn hcs q1 q2 q3 q4 q5 q6 => ?_
  show wpAny _ _ (eval _ _) _ _ _
  rw [eval_ListComp]
  refine comp_core (use := none) ie ii ic htn hcs q1 q2 q3 q4 q5 q6 hev c fun acc C s' φ' R' S' V' hC hB hO hn => ?_
  obtain ⟨m, hn⟩ := hn
  exact ⟨m, hn, fun h' hs => ⟨φ', R'.at1 hs hO hB (ns_frz hn) s'.toks, S'.new1 hC hs.extBut, vrep_but hn hs V'⟩⟩

variable (G : Good T) (C : CallsOk prog T cf inits D U) (hU : U + 100 < cLine)
include G C hU
mutual
theorem snd_all : ∀ x : Ex, SndE prog T cf inits D U x ∧ SndT prog T cf inits D U x
  | .const v => ⟨snd_const, sndT_plain rfl snd_const⟩
  | .glob g => ⟨snd_glob G, sndT_plain rfl (snd_glob G)⟩
  | .var i => ⟨snd_var, sndT_plain rfl snd_var⟩
  | .bin o a b => let h := snd_bin (snd_all a).1 (snd_all b).1; ⟨h, sndT_plain rfl h⟩
  | .neg a => let h := snd_neg (snd_all a).1; ⟨h, sndT_plain rfl h⟩
  | .inv a => let h := snd_inv (snd_all a).1; ⟨h, sndT_plain rfl h⟩
  | .not a => ⟨snd_not (snd_all a).1, sndT_not (snd_all a).2⟩
  | .and es => ⟨snd_and (snd_alls es).2.1, sndT_and (snd_alls es).2.2.2.1⟩
  | .or es => ⟨snd_or (snd_alls es).2.2.1, sndT_or (snd_alls es).2.2.2.2.1⟩
  | .cmp o a b => ⟨snd_cmp hU (snd_all a).1 (snd_all b).1, sndT_cmp hU (snd_all a).1 (snd_all b).1⟩
  | .cmp2 o p a b d => ⟨snd_cmp2 hU (snd_all a).1 (snd_all b).1 (snd_all d).1, sndT_cmp2 hU (snd_all a).1 (snd_all b).1 (snd_all d).1⟩
  | .ite a b d => ⟨snd_ite (snd_all a).2 (snd_all b).1 (snd_all d).1, sndT_ite (snd_all a).2 (snd_all b).2 (snd_all d).2⟩
  | .attr a k => let h := snd_attr G (snd_all a).1; ⟨h, sndT_plain rfl h⟩
  | .item a i => let h := snd_item (snd_all a).1 (snd_all i).1; ⟨h, sndT_plain rfl h⟩
  | .sliceFrom a lo => let h := snd_sliceFrom (snd_all a).1; ⟨h, sndT_plain rfl h⟩
  | .call f es => let h := snd_call G C (snd_alls es).1; ⟨h, sndT_plain rfl h⟩
  | .append a b => let h := snd_append (snd_all a).1 (snd_all b).1; ⟨h, sndT_plain rfl h⟩
  | .count a b => let h := snd_count (snd_all a).1 (snd_all b).1; ⟨h, sndT_plain rfl h⟩
  | .list es => let h := snd_list (snd_alls es).1; ⟨h, sndT_plain rfl h⟩
  | .tuple es => let h := snd_tuple (snd_alls es).1; ⟨h, sndT_plain rfl h⟩
  | .comp nt caps elt iter conds => let h := snd_comp (snd_all elt).1 (snd_all iter).1 (snd_alls conds).2.2.2.2.2; ⟨h, sndT_plain rfl h⟩
theorem snd_alls : ∀ xs : Exs, SndEs prog T cf inits D U xs ∧ SndAnd prog T cf inits D U xs ∧ SndOr prog T cf inits D U xs ∧ SndAndT prog T cf inits D U xs ∧ SndOrT prog T cf inits D U xs ∧ SndTests prog T cf inits D U xs
  | .nil => ⟨snd_es_nil, snd_and_nil, snd_or_nil, snd_andT_nil, snd_orT_nil, snd_tests_nil⟩
  | .cons x xs => ⟨snd_es_cons (snd_all x).1 (snd_alls xs).1, snd_and_cons (snd_all x).1 (snd_alls xs).2.1, snd_or_cons (snd_all x).1 (snd_alls xs).2.2.1, snd_andT_cons (snd_all x).2 (snd_alls xs).2.2.2.1, snd_orT_cons (snd_all x).2 (snd_alls xs).2.2.2.2.1,
      snd_tests_cons (snd_all x).2 (snd_alls xs).2.2.2.2.2⟩
end
end
end Mine
end

section
set_option maxRecDepth 100000
open PySem PySem.W PyProof.Rows
namespace Mine

noncomputable def FlwOk (φ : List Plc) (H : AH) (h : Heap) : Flw → Flow → Prop
  | .next, f => f = .next
  | .ret v, f => ∃ c, f = .ret c ∧ VRep h φ (Own φ H) v c
noncomputable def PostS (T : Tabs) (env : PySem.Env) (vars : List Str) (φ : List Plc) (H : AH) (s : Shared) (fl : Flw) (ρ' : Vars) (H' : AH) : Flow → Shared → Prop :=
  fun f s' => ∃ φ', Rep T φ' H' s' ∧ Step (XOf env) φ H s.heap φ' H' s'.heap ∧ Frame φ' H' s'.heap env vars ρ' ∧ FlwOk φ' H' s'.heap fl f

noncomputable def GSt (prog : Program) (T : Tabs) (A : Around) (st : Stmt) (env : PySem.Env) (vars : List Str) (φ : List Plc) (H : AH) (s : Shared) (fl : Flw) (ρ' : Vars) (H' : AH) : Prop := wpAny (model prog T.w) A (exec st env) (PostS T env vars φ H s fl ρ' H') NoE s
section
variable (prog : Program) (T : Tabs) (cf : CallF) (inits : List Nat) (D U : Nat)
noncomputable def SndS (x : St) : Prop := ∀ (vars : List Str) (env : PySem.Env) (ρ ρ' : Vars) (st : Stmt) (H H' : AH) (fl : Flw) (φ : List Plc) (s : Shared) (A : Around),
  ckS T.N vars env.scope x st = true → exS cf inits T.globs x ρ H = some (fl, ρ', H') → Cond T D U vars env ρ φ H s A → GSt prog T A st env vars φ H s fl ρ' H'
noncomputable def SndSs (xs : Sts) : Prop := ∀ (vars : List Str) (env : PySem.Env) (ρ ρ' : Vars) (st : List Stmt) (H H' : AH) (fl : Flw) (φ : List Plc) (s : Shared) (A : Around),
  ckSs T.N vars env.scope xs st = true → exSs cf inits T.globs xs ρ H = some (fl, ρ', H') → Cond T D U vars env ρ φ H s A →
  wpAny (model prog T.w) A (execs st env) (PostS T env vars φ H s fl ρ' H') NoE s
end

section
variable {prog : Program} {T : Tabs} {cf : CallF} {inits : List Nat} {D U : Nat} {X : Addr → Prop} {φ φ' : List Plc} {H H' H1 : AH} {s s' : Shared} {A : Around} {vars : List Str} {env : PySem.Env} {ρ ρ' : Vars}

theorem PostS.trans {fl : Flw} {f : Flow} {s1 s2 : Shared} {φ1 : List Plc} (S : Step (XOf env) φ H s.heap φ1 H1 s1.heap) (x : PostS T env vars φ1 H1 s1 fl ρ' H' f s2) : PostS T env vars φ H s fl ρ' H' f s2 := by
  obtain ⟨φ', R, S', F, V⟩ := x
  exact ⟨φ', R, S.trans S', F, V⟩
theorem Cond.stepS (c : Cond T D U vars env ρ φ H s A) (R : Rep T φ' H' s') (F : Frame φ' H' s'.heap env vars ρ') : Cond T D U vars env ρ' φ' H' s' A :=
  ⟨c.hh, c.dep, c.un, c.ke, R, F⟩

section
variable {E : Value → Shared → Prop}
theorem SndS.next {x : St} (ix : SndS prog T cf inits D U x) {st : Stmt} {Q : Flow → Shared → Prop} (h1 : ckS T.N vars env.scope x st = true) (h2 : exS cf inits T.globs x ρ H = some (.next, ρ', H1)) (c : Cond T D U vars env ρ φ H s A)
    (k : ∀ s1 φ1, Rep T φ1 H1 s1 → Step (XOf env) φ H s.heap φ1 H1 s1.heap → Frame φ1 H1 s1.heap env vars ρ' → Q .next s1) : wpAny (model prog T.w) A (exec st env) Q E s :=
  wpAny_mono (ix vars env ρ ρ' st H H1 _ φ s A h1 h2 c) (fun f s1 ⟨φ1, R1, S1, F1, e⟩ => (e : f = .next) ▸ k s1 φ1 R1 S1 F1) fun _ _ f => f.elim
theorem SndS.ret {x : St} (ix : SndS prog T cf inits D U x) {st : Stmt} {v : PV} {Q : Flow → Shared → Prop} (h1 : ckS T.N vars env.scope x st = true) (h2 : exS cf inits T.globs x ρ H = some (.ret v, ρ', H1)) (c : Cond T D U vars env ρ φ H s A)
    (k : ∀ cv s1 φ1, Rep T φ1 H1 s1 → Step (XOf env) φ H s.heap φ1 H1 s1.heap → Frame φ1 H1 s1.heap env vars ρ' → VRep s1.heap φ1 (Own φ1 H1) v cv → Q (.ret cv) s1) : wpAny (model prog T.w) A (exec st env) Q E s :=
  wpAny_mono (ix vars env ρ ρ' st H H1 _ φ s A h1 h2 c) (fun f s1 ⟨φ1, R1, S1, F1, cv, e, V1⟩ => e ▸ k cv s1 φ1 R1 S1 F1 V1) fun _ _ f => f.elim
theorem SndSs.next {x : Sts} (ix : SndSs prog T cf inits D U x) {st : List Stmt} {Q : Flow → Shared → Prop} (h1 : ckSs T.N vars env.scope x st = true) (h2 : exSs cf inits T.globs x ρ H = some (.next, ρ', H1)) (c : Cond T D U vars env ρ φ H s A)
    (k : ∀ s1 φ1, Rep T φ1 H1 s1 → Step (XOf env) φ H s.heap φ1 H1 s1.heap → Frame φ1 H1 s1.heap env vars ρ' → Q .next s1) : wpAny (model prog T.w) A (execs st env) Q E s :=
  wpAny_mono (ix vars env ρ ρ' st H H1 _ φ s A h1 h2 c) (fun f s1 ⟨φ1, R1, S1, F1, e⟩ => (e : f = .next) ▸ k s1 φ1 R1 S1 F1) fun _ _ f => f.elim
theorem SndSs.ret {x : Sts} (ix : SndSs prog T cf inits D U x) {st : List Stmt} {v : PV} {Q : Flow → Shared → Prop} (h1 : ckSs T.N vars env.scope x st = true) (h2 : exSs cf inits T.globs x ρ H = some (.ret v, ρ', H1)) (c : Cond T D U vars env ρ φ H s A)
    (k : ∀ cv s1 φ1, Rep T φ1 H1 s1 → Step (XOf env) φ H s.heap φ1 H1 s1.heap → Frame φ1 H1 s1.heap env vars ρ' → VRep s1.heap φ1 (Own φ1 H1) v cv → Q (.ret cv) s1) : wpAny (model prog T.w) A (execs st env) Q E s :=
  wpAny_mono (ix vars env ρ ρ' st H H1 _ φ s A h1 h2 c) (fun f s1 ⟨φ1, R1, S1, F1, cv, e, V1⟩ => e ▸ k cv s1 φ1 R1 S1 F1 V1) fun _ _ f => f.elim
end
theorem XOf.loc : XOf env env.locals := .inl rfl
theorem XOf.cell {x : Str} (c : Addr) (_ : env.kindOf x = some .cell) (h : env.cells.lookup x = some c) : XOf env c := .inr ⟨x, h⟩

theorem swaps_plain {value : Expr} {t : Option Expr} {n : Nat} (h : isComp value = false) : swapsWith value t n env = pure false := by
  cases value <;> first | rfl | exact (bft h.symm).elim
theorem comp_of {N : Nms} {vs : List Str} {sc scope : Scope} {e : Ex} {x : Expr} {gs : List PySem.Comprehension} {pos : Pos} {C : Prop} (h : ckE N vs sc e (.ListComp x gs scope pos) = true) (k : ∀ nt caps elt iter conds, e = .comp nt caps elt iter conds → C) : C := by
  cases e with
  | comp nt caps elt iter conds => exact k nt caps elt iter conds rfl
  | _ => exact (bft h).elim

theorem snd_assignC {i : Nat} {nt : Nat} {caps : List Nat} {elt iter : Ex} {conds : Exs} (G : Good T) (C : CallsOk prog T cf inits D U) (hU : U + 100 < cLine) {x : Str} {p sp pos : Pos} {x2 t it : Expr} {ifs : List Expr} {scope : Scope} {v : PV}
    (h1 : vars[i]? = some x) (q2 : env.scope.names.lookup x = some .local) (q3 : (p.line == pos.line) = true) (q4 : (scope.names.any fun (n, k) => n == x && (k == .local || k == .cell)) = false)
    {tn cs : List Str} (htn : targets t = some tn) (hcs : capNames vars caps = some cs) (r1 : tn.length = nt) (r2 : ckScope env.scope scope tn cs = true) (r3 : nodupS (tn ++ cs) = true) (r4 : ckE T.N vars env.scope iter it = true)
    (r5 : ckE T.N (tn ++ cs) (relab env.scope scope) elt x2 = true) (r6 : ckEs T.N (tn ++ cs) (relab env.scope scope) conds ifs = true)
    (hv : evE cf inits T.globs ρ (.comp nt caps elt iter conds) H = some (v, H')) (hi : i < ρ.length) (c : Cond T D U vars env ρ φ H s A) :
    wpAny (model prog T.w) A (exec (.Assign [.Name x p] (.ListComp x2 [⟨t, it, ifs, 0⟩] scope pos) sp) env) (PostS T env vars φ H s .next (ρ.set i (some v)) H') NoE s := by
  have hsw : swapsWith (.ListComp x2 [⟨t, it, ifs, 0⟩] scope pos) (some (.Name x p)) sp.line env = pure true := by
    show (pure (env.blockKind == .function && env.kindOf x == some .local && p.line == pos.line && !(scope.names.any fun (n, k) => n == x && (k == .local || k == .cell))) : Sem Bool) = _
    have e1 : (env.blockKind == .function) = true := by unfold Env.blockKind; rw [c.ke.kind]; rfl
    have e2 : (env.kindOf x == some .local) = true := by unfold Env.kindOf; rw [q2]; rfl
    rw [e1, e2, q4, q3]; rfl
  rw [exec_Assign_Name_used _ _ _ _ hsw]
  refine wpAny_bind (wpAny_standAt (wpAny_bind ?_))
  show wpAny _ A (do let _ ← comprehension (.ListComp x2 [⟨t, it, ifs, 0⟩] scope pos) scope env _ (newList []) false (eval it env) (some (assign (.Name x p) env))) _ _ s
  refine wpAny_bind (wpAny_mono (comp_core (use := some (assign (.Name x p) env)) (Q := fun _ s' => PostS T env vars φ H s .next (ρ.set i (some v)) H' .next s')
    (snd_all G C hU elt).1 (snd_all G C hU iter).1 (snd_alls G C hU conds).2.2.2.2.2 htn hcs r1 r2 r3 r4 r5 r6 hv c fun acc Cf s' φ' R' S' V' hC hB hO hn => ?_)
    (fun _ s' hq => wpAny_pure (wpAny_pure hq)) fun _ _ e => e)
  obtain ⟨m, hn⟩ := hn
  have hLC : env.locals ≠ Cf := by
    rintro rfl
    obtain ⟨m2, hm2, _⟩ := c.fr.ns
    obtain ⟨o, _, _, ho, _⟩ := ns_data hm2
    rw [hC] at ho; cases ho
  show wpAny _ A (assign (.Name x p) env acc) _ _ _
  refine wpAny_assign_Name (store_var (X := fun b => b = env.locals) c.ke R' (c.fr.step0 c.rep S') h1 V' rfl (fun c' hk _ => by unfold Env.kindOf at hk; rw [q2] at hk; cases hk) fun s2 R2 F2 S2 => ?_)
  have hn2 : s2.heap.Ns Cf m := hn.at' fun o e => S2.keep Cf o e hO fun q => absurd q.symm hLC
  refine ⟨m, hn2, fun h3 hs3 => ⟨φ', R2.at1 hs3 hO hB (ns_frz hn2) s2.toks, (S'.noX.trans (S2.weaken fun b q => .inl q)).new1 hC hs3.extBut, ?_, rfl⟩⟩
  obtain ⟨m1, g1, g2⟩ := F2.ns
  refine ⟨F2.len, F2.own, ⟨m1, g1.sameBut hs3 hLC, fun j y u k1 k2 k3 => (g2 j y u k1 k2 k3).imp fun cu e => ⟨e.1, vrep_but hn2 hs3 e.2⟩⟩, fun y d hd => ?_⟩
  obtain ⟨ov, k1, k2⟩ := F2.cells y d hd
  have hne : d ≠ Cf := by
    rintro rfl
    obtain ⟨o, _, _, e1, e2⟩ := ns_data hn2
    obtain ⟨o', e3, e4⟩ := k1
    rw [e1] at e3; cases e3; rw [e2] at e4; cases e4
  exact ⟨ov, k1.sameBut hs3 hne, fun j u f1 f2 f3 => (k2 j u f1 f2 f3).imp fun cu e => ⟨e.1, vrep_but hn2 hs3 e.2⟩⟩

theorem snd_assign {i : Nat} {e : Ex} (G : Good T) (C : CallsOk prog T cf inits D U) (hU : U + 100 < cLine) : SndS prog T cf inits D U (.assign i e) := by
  intro vars env ρ ρ' st H H' fl φ s A hck hev c
  refine sAs_el st hck fun ts value sp hck => b1_el ts hck fun t hck => eN_el t hck fun x p hck => and_el hck fun h1 hck => and_el hck fun h2 h3 =>
    ob_el hev fun v H1 hv hev => og_el hev fun hi hev => s3_el hev ?_
  replace h1 := beq_iff_eq.mp h1
  cases hc : isComp value with
  | false =>
    exact wpAny_Assign_Name ((snd_all G C hU e).1.go h3 hv c fun cv s1 φ1 R1 S1 V1 => store_var (X := XOf env) c.ke R1 (c.fr.step0 c.rep S1) h1 V1 XOf.loc XOf.cell fun s2 R2 F2 S2 => ⟨φ1, R2, S1.noX.trans S2, F2, rfl⟩) (swaps_plain hc)
  | true =>
    unfold ckComp at h2
    rw [hc] at h2
    revert h3
    refine eLc_el value h2 fun x2 gs scope pos h2 => and_el h2 fun _ h2 => and_el h2 fun q2 h2 => and_el h2 fun q3 q4 h3 => comp_of h3 fun nt caps elt iter conds he => ?_
    subst he
    exact comp_el gs h3 fun t it ifs tn cs htn hcs r1 r2 r3 r4 r5 r6 => snd_assignC G C hU h1 (beq_iff_eq.mp q2) q3 (Mine.nt q4) htn hcs r1 r2 r3 r4 r5 r6 hv (of_decide_eq_true hi) c

theorem snd_setAttr {o e : Ex} {k : Nat} (G : Good T) (io : SndE prog T cf inits D U o) (ie : SndE prog T cf inits D U e) : SndS prog T cf inits D U (.setAttr o k e) := by
  intro vars env ρ ρ' st H H' fl φ s A hck hev c
  refine sAs_el st hck fun ts value sp hck => b1_el ts hck fun t hck => eA_el t hck fun x n ap hck => and_el hck fun h1 hck => and_el hck fun h2 hck => and_el hck fun h3 h4 =>
    ob_el hev fun v H1 hv hev => ob_el hev fun y H2 hy hev => oo_el hev fun H3 hset hev => s3_el hev ?_
  obtain ⟨hk, rfl⟩ := attr_n (beq_iff_eq.mp h1)
  exact plainObj_wpAny_Assign_Attribute (ie.go h4 hv c fun cv s1 φ1 R1 S1 V1 => io.go h3 hy (c.step R1 S1) fun cy s2 φ2 R2 S2 V2 =>
    setAttr_ok hset R2 ((c.fr.step0 c.rep S1).step0 R1 S2) c.ke V2 (S2.vrep V1) G.hK G.nd G.cls hk fun s3 R3 F3 S3 => ⟨φ2, R3, (S1.trans S2).noX.trans S3, F3, rfl⟩) (swaps_plain (nt h2))

theorem snd_setItem {o i e : Ex} (io : SndE prog T cf inits D U o) (ii : SndE prog T cf inits D U i) (ie : SndE prog T cf inits D U e) : SndS prog T cf inits D U (.setItem o i e) := by
  intro vars env ρ ρ' st H H' fl φ s A hck hev c
  exact sAs_el st hck fun ts value sp hck => b1_el ts hck fun t hck => eS_el t hck fun x y ap hck => and_el hck fun h1 hck => and_el hck fun h2 hck => and_el hck fun h3 h4 =>
    ob_el hev fun v H1 hv hev => ob_el hev fun p H2 hp hev => ob_el hev fun q H3 hq hev => oo_el hev fun H4 hset hev => s3_el hev
      (wpAny_Assign_Subscript (ie.go h4 hv c fun cv s1 φ1 R1 S1 V1 => io.go h2 hp (c.step R1 S1) fun cy s2 φ2 R2 S2 V2 => ii.go h3 hq (c.step R2 (S1.trans S2)) fun cz s3 φ3 R3 S3 V3 =>
        setItem_ok (X := NoX) hset R3 (S3.vrep V2) V3 (S3.vrep (S2.vrep V1)) fun s4 R4 S4 => ⟨φ3, R4, (((S1.trans S2).trans S3).trans S4).noX, c.fr.step0 c.rep (((S1.trans S2).trans S3).trans S4), rfl⟩) (swaps_plain (nt h1)))

theorem snd_aug {i : Nat} {o : Bop} {e : Ex} (ie : SndE prog T cf inits D U e) : SndS prog T cf inits D U (.aug i o e) := by
  intro vars env ρ ρ' st H H' fl φ s A hck hev c
  refine sAu_el st hck fun t op value sp hck => eN_el t hck fun x p hck => and_el hck fun h1 hck => and_el hck fun h2 h3 =>
    oo_el hev fun u0 hu0 hev => oo_el hev fun u1 hu1 hev => oi_el hev fun a ha hev => obi_el hev fun b H1 hb hev => ob_el hev fun v H2 hv hev => s3_el hev ?_
  subst hu1 ha
  exact wpAny_AugAssign_Name (load_var c.ke c.fr (beq_iff_eq.mp h1) hu0 fun ca Va => Va.int_el fun t => ie.go h3 hb c fun cb s1 φ1 R1 S1 V1 => V1.int_el fun u =>
    wpAny_mono (inplace_ok (X := NoX) hv h2 R1) (fun cv s2 ⟨φ2, R2, S2, V2⟩ => store_var (X := XOf env) c.ke R2 ((c.fr.step0 c.rep S1).step0 R1 S2) (beq_iff_eq.mp h1) V2 XOf.loc XOf.cell fun s3 R3 F3 S3 =>
      ⟨φ2, R3, (S1.trans S2).noX.trans S3, F3, rfl⟩) fun _ _ f => f)

theorem snd_augItem {a i e : Ex} {o : Bop} (ia : SndE prog T cf inits D U a) (ii : SndE prog T cf inits D U i) (ie : SndE prog T cf inits D U e) : SndS prog T cf inits D U (.augItem a i o e) := by
  intro vars env ρ ρ' st H H' fl φ s A hck hev c
  refine sAu_el st hck fun t op value sp hck => eS_el t hck fun x y ap hck => and_el hck fun h1 hck => and_el hck fun h2 hck => and_el hck fun h3 h4 =>
    ob_el hev fun p H1 hp hev => ob_el hev fun q H2 hq hev => oo_el hev fun u0 hu hev => oi_el hev fun u hu0 hev => obi_el hev fun v H3 hv hev => ob_el hev fun z H4 hz hev => oo_el hev fun H5 hset hev => s3_el hev ?_
  subst hu0
  exact wpAny_AugAssign_SubscriptAny (ia.go h2 hp c fun cp s1 φ1 R1 S1 V1 => ii.go h3 hq (c.step R1 S1) fun cq s2 φ2 R2 S2 V2 => (getItem_ok (prog := prog) (w := T.w) (A := A) hu R2 (S2.vrep V1) V2 fun cu Vu => Vu.int_el fun t =>
    ie.go h4 hv (c.step R2 (S1.trans S2)) fun cv s3 φ3 R3 S3 V3 => V3.int_el fun t' => wpAny_mono (inplace_ok (X := NoX) hz h1 R3) (fun cz s4 ⟨φ4, R4, S4, V4⟩ =>
      setItem_ok (X := NoX) hset R4 (S4.vrep (S3.vrep (S2.vrep V1))) (S4.vrep (S3.vrep V2)) V4 fun s5 R5 S5 => ⟨φ4, R5, ((((S1.trans S2).trans S3).trans S4).trans S5).noX, c.fr.step0 c.rep ((((S1.trans S2).trans S3).trans S4).trans S5), rfl⟩)
      fun _ _ f => f).1) (sub2_plain (ck_shape h3))

theorem snd_expr {e : Ex} (ie : SndE prog T cf inits D U e) : SndS prog T cf inits D U (.expr e) := by
  intro vars env ρ ρ' st H H' fl φ s A hck hev c
  exact sEx_el st hck fun value sp hck => and_el hck fun h1 h2 => obn_el hev fun H1 hv hev => s3_el hev
    (wpAny_Expr (ie.go h2 hv c fun cv s1 φ1 R1 S1 V1 => V1.none_inv ▸ ⟨φ1, R1, S1.noX, c.fr.step0 c.rep S1, rfl⟩) (by unfold interactive; rw [c.ke.kind]; rfl) (swaps_plain (nt h1)))

theorem snd_ifS {t : Ex} {b o : Sts} (it : SndT prog T cf inits D U t) (ib : SndSs prog T cf inits D U b) (io : SndSs prog T cf inits D U o) : SndS prog T cf inits D U (.ite t b o) := by
  intro vars env ρ ρ' st H H' fl φ s A hck hev c
  exact sIf_el st hck fun x b' o' sp hck => and_el hck fun k1 hck => and_el hck fun k2 k3 => ob_el hev fun q H1 h1 hev => wpAny_If (it.go k1 h1 c fun s1 φ1 R1 S1 => by
    cases q with
    | true => exact wpAny_mono (ib vars env ρ ρ' b' H1 H' fl φ1 s1 A k2 hev (c.step R1 S1)) (fun _ _ h2 => PostS.trans S1.noX h2) fun _ _ f => f
    | false => exact wpAny_mono (io vars env ρ ρ' o' H1 H' fl φ1 s1 A k3 hev (c.step R1 S1)) (fun _ _ h2 => PostS.trans S1.noX h2) fun _ _ f => f)

theorem snd_ret {e : Ex} (ie : SndE prog T cf inits D U e) : SndS prog T cf inits D U (.ret e) := by
  intro vars env ρ ρ' st H H' fl φ s A hck hev c
  exact sRe_el st hck fun value sp hck => bv_el value hck fun value hck => ob_el hev fun v H1 h1 hev => s3_el hev
    (wpAny_Return_some (ie.go hck h1 c fun cv s1 φ1 R1 S1 V1 => ⟨φ1, R1, S1.noX, c.fr.step0 c.rep S1, cv, rfl, V1⟩))

theorem snd_stop : SndS prog T cf inits D U .stop := fun _ _ _ _ _ _ _ _ _ _ _ _ hev _ => nse hev

theorem snd_ss_nil : SndSs prog T cf inits D U .nil := by
  intro vars env ρ ρ' st H H' fl φ s A hck hev c
  exact em_el st hck (s3_el hev (wpAny_execs_nil ⟨φ, c.rep, Step.refl .., c.fr, rfl⟩))
theorem snd_ss_cons {a : St} {r : Sts} (ia : SndS prog T cf inits D U a) (ir : SndSs prog T cf inits D U r) : SndSs prog T cf inits D U (.cons a r) := by
  intro vars env ρ ρ' st H H' fl φ s A hck hev c
  refine bc_el st hck fun e es hck => and_el hck fun k1 k2 => oS_el hev (fun v e1 h1 => ?_) fun ρ1 H1 h1 hev => ?_
  · subst e1
    exact wpAny_execs_cons (ia.ret k1 h1 c fun cv s1 φ1 R1 S1 F1 V1 => ⟨φ1, R1, S1, F1, cv, rfl, V1⟩)
  · exact wpAny_execs_cons (ia.next k1 h1 c fun s1 φ1 R1 S1 F1 => wpAny_mono (ir vars env ρ1 ρ' es H1 H' fl φ1 s1 A k2 hev (c.stepS R1 F1)) (fun _ _ h2 => PostS.trans S1 h2) fun _ _ f => f)
end
end Mine
end

section
set_option maxRecDepth 100000
open PySem PySem.W PyProof.Rows
namespace Mine
section
variable {prog : Program} {T : Tabs} {cf : CallF} {inits : List Nat} {D U : Nat} {X : Addr → Prop} {φ φ' : List Plc} {H H' H1 : AH} {s s' : Shared} {A : Around} {vars : List Str} {env : PySem.Env} {ρ ρ' : Vars}

theorem exec_assign_one {M : Model} {E : Value → Shared → Prop} {t value : Expr} {pos : Pos} {sw : Option (List Str)} {Q : Flow → Shared → Prop} (hs : swapsWith value (some t) pos.line env = pure false) (hsw : swappedStores [t] value env = pure sw)
    (h : wpAny M A (eval value env) (fun v s1 => wpAny M A (assignStores env v sw ((assignEach [t] env).map (·.2))) Q E s1) E s)
    (he : exec (.Assign [t] value pos) env = (do
      standAt pos
      if ← swapsWith value (some t) pos.line env then do
        evalThenUse value env fun v => assignAll v ((assignEach [t] env).map (·.2))
        pure .next
      else do
        let v ← eval value env
        assignStores env v (← swappedStores [t] value env) ((assignEach [t] env).map (·.2)))) : wpAny M A (exec (.Assign [t] value pos) env) Q E s := by
  rw [he, hs, hsw]
  refine wpAny_bind (wpAny_standAt (wpAny_bind (wpAny_pure ?_)))
  simp only [Bool.false_eq_true, if_false]
  exact wpAny_bind (wpAny_mono h (fun v s1 h1 => wpAny_bind (wpAny_pure h1)) fun _ _ x => x)

theorem swapped2 {env : PySem.Env} {x1 x2 : Str} {p1 p2 p p' : Pos} {k k' : Nat} {es : List Expr} (hk : env.scope.kind = .function) (hl : es.length = 2) (hst : ∀ z ∈ es, isStar z = false) (hf : es.all (foldedForSure 8) = false) (hc : es.all (constantsAlone 8) = false)
    (h1 : env.kindOf x1 = some .local) (h2 : env.kindOf x2 = some .local) (hp : p2.line = p1.line) (hne : x1 ≠ x2) : swappedStores [.Tuple [.Name x1 p1, .Name x2 p2] k p] (.Tuple es k' p') env = pure (some [x1, x2]) := by
  have e0 : (env.blockKind != .function) = false := by unfold Env.blockKind; rw [hk]; rfl
  have e1 : (env.kindOf x1 == some .local) = true := by rw [h1]; rfl
  have e2 : (env.kindOf x2 == some .local) = true := by rw [h2]; rfl
  have e3 : ∀ f : Expr → Bool, (∀ z, isStar z = false → f z = false) → es.any f = false := fun f h => by
    rw [List.any_eq_false]; intro z hz; rw [h z (hst z hz)]; exact bft
  have e4 : (p2.line == p1.line) = true := beq_iff_eq.mpr hp
  have e4' : (p1.line == p1.line) = true := beq_iff_eq.mpr rfl
  have e5 : ([x1, x2] : List Str).eraseDups.length = 2 := by
    rw [List.eraseDups_cons]
    have : ([x2].filter fun b => !b == x1) = [x2] := by
      rw [List.filter_cons]
      have : (!x2 == x1) = true := by rw [beq_eq_false_iff_ne.mpr (Ne.symm hne)]; rfl
      rw [this]; rfl
    rw [this, List.eraseDups_cons]
    simp
  have e6 : (!(([Expr.Name x1 p1, Expr.Name x2 p2] : List Expr).length == 2 || ([Expr.Name x1 p1, Expr.Name x2 p2] : List Expr).length == 3) || es.length != ([Expr.Name x1 p1, Expr.Name x2 p2] : List Expr).length || env.blockKind != ScopeKind.function) = false := by
    rw [hl, e0]; rfl
  unfold swappedStores
  dsimp only
  rw [e6]
  simp only [Bool.false_eq_true, if_false]
  rw [e3 _ (by intro z hz; cases z <;> first | rfl | exact (bft hz.symm).elim)]
  simp only [Bool.false_eq_true, if_false]
  have e7 : (Option.map (fun (x : Expr) => x.pos.line) ([Expr.Name x1 p1, Expr.Name x2 p2] : List Expr).head?).getD 0 = p1.line := rfl
  rw [e7]
  simp only [List.filterMap_cons, List.filterMap_nil, e1, e2, e4, e4', Bool.and_self, if_true, hf, hc, e5, yy0, yy1, bne_self_eq_false, Bool.or_self, Bool.false_eq_true, if_false]

theorem swap_store {x1 x2 : Str} {i1 i2 : Nat} {v : PV} {v1 v2 : PV} {cv : Value} {s1 : Shared} {φ1 : List Plc} (c : Cond T D U vars env ρ φ1 H1 s1 A) (h1 : vars[i1]? = some x1) (h2 : vars[i2]? = some x2) (hne : x1 ≠ x2) (hvs : unpk H1 v = some [v1, v2]) (V1 : VRep s1.heap φ1 (Own φ1 H1) v cv) :
    wpAny (model prog T.w) A (assignStores env cv (some [x1, x2]) []) (PostS T env vars φ1 H1 s1 .next ((ρ.set i1 (some v1)).set i2 (some v2)) H1) NoE s1 := by
  unfold assignStores
  dsimp only
  refine wpAny_bind (wpAny_rule (wpAny_bind ?_))
  refine unpack_ok (vs := [v1, v2]) c.hh hvs c.rep V1 fun s2 cs R2 S2 hcs => ?_
  obtain ⟨c1, r1, rfl, k1, k2⟩ := hcs.cons_inv
  obtain ⟨c2, r2, rfl, k3, k4⟩ := k2.cons_inv
  have := k4.nil_inv
  subst this
  refine wpAny_bind (m := assignInOrder [bindName env x2, bindName env x1] [c2, c1]) ?_
  refine assignInOrder_cons (wpAny_bindName (store_var (X := XOf env) c.ke R2 (c.fr.step0 c.rep S2) h2 k3 XOf.loc XOf.cell fun s3 R3 F3 S3 => ?_))
  refine assignInOrder_cons (wpAny_bindName (store_var (X := XOf env) c.ke R3 F3 h1 (S3.vrep k1) XOf.loc XOf.cell fun s4 R4 F4 S4 => ?_))
  refine assignInOrder_nil (wpAny_pure ⟨φ1, R4, (S2.noX.trans S3).trans S4, ?_, rfl⟩)
  have hi : i1 ≠ i2 := by
    intro q
    rw [q, h2] at h1
    exact hne (Option.some.inj h1).symm
  rw [List.set_comm _ _ hi]
  exact F4

theorem swapped_none {ts : List Expr} {k : Nat} {p : Pos} {value : Expr} (h : isTup value = false) : swappedStores [.Tuple ts k p] value env = pure none := by
  cases value <;> first | rfl | exact (bft h.symm).elim
theorem len2 {l : List Nat} (h : l.length = 2) : ∃ a b, l = [a, b] := by
  rcases l with _ | ⟨a, _ | ⟨b, _ | ⟨_, _⟩⟩⟩ <;> first | exact ⟨a, b, rfl⟩ | cases h
theorem set2 {i1 i2 : Nat} {vs : List PV} {ρ ρ' : Vars} (h : setAll [i1, i2] vs ρ = some ρ') : ∃ v1 v2, vs = [v1, v2] ∧ ρ' = (ρ.set i1 (some v1)).set i2 (some v2) :=
  oc_el h fun v1 vs' e1 h1 => og_el h1 fun _ h1 => oc_el h1 fun v2 vs'' e2 h2 => og_el h2 fun _ h2 => by
    subst e1 e2
    cases vs'' with
    | nil => exact ⟨v1, v2, rfl, (Option.some.inj h2).symm⟩
    | cons _ _ => exact nse h2
theorem snd_assignTup {is : List Nat} {e : Ex} (ie : SndE prog T cf inits D U e) : SndS prog T cf inits D U (.assignTup is e) := by
  intro vars env ρ ρ' st H H' fl φ s A hck hev c
  refine sAs_el st hck fun ts value sp hck => b1_el ts hck fun t hck => eT_el t hck fun ts n p hck => bo_el hck fun xs hxs hck => and_el hck fun h1 hck => and_el hck fun h2 hck => and_el hck fun h3 h4 =>
    ob_el hev fun v H1 hv hev => oo_el hev fun vs hvs hev => og_el hev fun _ hev => oo_el hev fun ρ1 hset hev => s3_el hev ?_
  have hlen := ckStore_len h2
  unfold ckTupVal at h3
  cases hc : isTup value with
  | false =>
    rw [hc] at h3
    refine exec_assign_one (swaps_plain (nt h3)) (swapped_none hc) (ie.go h4 hv c fun cv s1 φ1 R1 S1 V1 => ?_) rfl
    obtain ⟨n1, n2⟩ := names_assign env hxs
    have e1 : (assignEach ts env).length = vs.length := by rw [n1, setAll_len hset, hlen]
    show wpAny _ A (do assignAll cv [assign (.Tuple ts n p) env]; pure Flow.next) _ _ _
    refine wpAny_bind ?_
    show wpAny _ A (assign (.Tuple ts n p) env cv) _ _ _
    rw [arm_assign_Tuple]
    refine wpAny_bind (wpAny_standAt ?_)
    unfold unpack
    rw [e1, n2]
    refine wpAny_bind (wpAny_holding (unpack_ok c.hh hvs R1 V1 fun s2 cs R2 S2 hcs => ?_))
    exact stores_ok (X := XOf env) c.ke XOf.loc hxs h2 hset R2 ((c.fr.step0 c.rep S1).step0 R1 S2) hcs (fun y _ c' a b => XOf.cell c' a b) fun s3 R3 F3 S3 =>
      wpAny_pure ⟨φ1, R3, (S1.trans S2).noX.trans S3, F3, rfl⟩
  | true =>
    rw [hc] at h3
    revert h4
    refine eT_el value h3 fun es k' p' h3 => and_el h3 fun q1 h3 => and_el h3 fun q3 h3 => and_el h3 fun q4 h3 => and_el h3 fun q5 h3 => and_el h3 fun q6 h3 h4 => ?_
    revert hxs
    refine bc_el ts h3 fun t1 ts' h3 => b1_el ts' h3 fun t2 h3 => eN_el t1 h3 fun x1 p1 h3 => eN_el t2 h3 fun x2 p2 h3 => and_el h3 fun q7 h3 => and_el h3 fun q8 h3 => and_el h3 fun q9 q10 hxs => ?_
    cases (Option.some.inj hxs : [x1, x2] = xs)
    have hne : x1 ≠ x2 := bne_iff_ne.mp q10
    refine exec_assign_one (swaps_plain rfl) (swapped2 c.ke.kind (of_decide_eq_true q1) (fun z hz => nt (List.all_eq_true.mp q4 z hz)) (nt q5) (nt q6) (beq_iff_eq.mp q7) (beq_iff_eq.mp q8) (beq_iff_eq.mp q9) hne) (ie.go h4 hv c fun cv s1 φ1 R1 S1 V1 => ?_) rfl
    obtain ⟨i1, i2, rfl⟩ := len2 hlen
    obtain ⟨v1, v2, rfl, rfl⟩ := set2 hset
    exact and_el h2 fun g1 g2 => and_el g2 fun g2 _ => wpAny_mono (swap_store (c.step R1 S1) (beq_iff_eq.mp g1) (beq_iff_eq.mp g2) hne hvs V1) (fun f s2 h5 => PostS.trans S1.noX h5) fun _ _ f => f
end
end Mine
end

section
set_option maxRecDepth 100000
open PySem PySem.W PyProof.Rows
namespace Mine
section
variable {prog : Program} {T : Tabs} {cf : CallF} {inits : List Nat} {D U : Nat} {X : Addr → Prop} {φ φ' : List Plc} {H H' H1 : AH} {s s' : Shared} {A : Around} {vars : List Str} {env : PySem.Env} {ρ ρ' : Vars}

theorem snd_while {t : Ex} {b : Sts} (it : SndT prog T cf inits D U t) (ib : SndSs prog T cf inits D U b) : SndS prog T cf inits D U (.while t b) := by
  intro vars env ρ ρ' st H H' fl φ s A hck hev c
  refine sWh_el st hck fun x y o sp hck => and_el hck fun h0 hck => em_el o h0 (and_el hck fun k1 k2 => ?_)
  refine wpAny_While (codeAny_whileLoop (fun n s1 => ∃ ρ1 H1 φ1, whileGo (fun ρ H => vTrue (evE cf inits T.globs ρ t H)) (fun ρ H => exSs cf inits T.globs b ρ H) n ρ1 H1 = some (fl, ρ', H') ∧ Rep T φ1 H1 s1 ∧ Frame φ1 H1 s1.heap env vars ρ1 ∧ Step (XOf env) φ H s.heap φ1 H1 s1.heap) ?_ 200 ⟨ρ, H, φ, hev, c.rep, c.fr, Step.refl ..⟩)
  rintro n s1 ⟨ρ1, H1, φ1, hgo, R1, F1, S1⟩
  cases n with
  | zero => exact nse hgo
  | succ n =>
    refine ob_el hgo fun t H2 h2 hgo => it.go k1 h2 (c.stepS R1 F1) fun s2 φ2 R2 S2 => ?_
    cases t with
    | false => exact s3_el hgo (wpAny_execs_nil ⟨φ2, R2, S1.trans S2.noX, F1.step0 R1 S2, rfl⟩)
    | true =>
      refine oS_el hgo (fun v e h3 => ?_) fun ρ2 H3 h3 hgo => ib.next k2 h3 (c.stepS R2 (F1.step0 R1 S2)) fun s3 φ3 R3 S3 F3 => ⟨n, Nat.lt_succ_self n, ρ2, H3, φ3, hgo, R3, F3, (S1.trans S2.noX).trans S3⟩
      subst e
      exact ib.ret k2 h3 (c.stepS R2 (F1.step0 R1 S2)) fun cv s3 φ3 R3 S3 F3 V3 => ⟨φ3, R3, (S1.trans S2.noX).trans S3, F3, cv, rfl, V3⟩

theorem Frame.ext {I : Addr} {i : Nat} {src : PV} {own : Addr → Prop} {h h' : Heap} (F : Frame φ H h env vars ρ) (x : IterAt h φ own I i src) (he : Heap.ExtBut I h h') : Frame φ H h' env vars ρ := by
  obtain ⟨o, nm, fs, k1, k2, k3, k4, k5⟩ := iter_cls x
  have hv : ∀ {v : PV} {c : Value}, VRep h φ (Own φ H) v c → VRep h' φ (Own φ H) v c := fun y =>
    y.mono (fun _ _ e => e) (fun b o' e _ f => he b o' (by rintro rfl; rw [k1] at e; cases e; rw [k5] at f; cases f) e) (fun _ _ _ q => q)
  obtain ⟨m, h1, h2⟩ := F.ns
  refine ⟨F.len, F.own, ⟨m, h1.extBut he ?_, fun j y u a1 a2 a3 => ?_⟩, fun y d hd => ?_⟩
  · rintro rfl
    obtain ⟨o', _, _, e1, e2⟩ := ns_data h1
    rw [k1] at e1; cases e1; rw [k3] at e2; cases e2
  · obtain ⟨cu, e1, e2⟩ := h2 j y u a1 a2 a3
    exact ⟨cu, e1, hv e2⟩
  · obtain ⟨ov, ⟨oc, g1, g2⟩, g3⟩ := F.cells y d hd
    refine ⟨ov, ⟨oc, he _ _ ?_ g1, g2⟩, fun j u a1 a2 a3 => ?_⟩
    · rintro rfl
      rw [k1] at g1; cases g1; rw [k3] at g2; cases g2
    · obtain ⟨cu, e1, e2⟩ := g3 j u a1 a2 a3
      exact ⟨cu, e1, hv e2⟩
theorem not_XOf {I : Addr} {i : Nat} {src : PV} {own : Addr → Prop} {h : Heap} (F : Frame φ H h env vars ρ) (x : IterAt h φ own I i src) : ¬ XOf env I := by
  obtain ⟨o, nm, fs, k1, k2, k3, k4, k5⟩ := iter_cls x
  rintro (rfl | ⟨y, hb⟩)
  · obtain ⟨m, h1, _⟩ := F.ns
    obtain ⟨o', _, _, e1, e2⟩ := ns_data h1
    rw [k1] at e1; cases e1; rw [k3] at e2; cases e2
  · obtain ⟨ov, ⟨oc, g1, g2⟩, _⟩ := F.cells y I hb
    rw [k1] at g1; cases g1; rw [k3] at g2; cases g2

structure ForAt (T : Tabs) (cf : CallF) (inits : List Nat) (b : Sts) (ts : List Nat) (env : PySem.Env) (vars : List Str) (src : PV) (vs : List PV) (I : Addr) (φ1 : List Plc) (H1 : AH) (h1 : Heap) (fl : Flw) (ρ' : Vars) (H' : AH) (rest : List PV) (ρ3 : Vars) (H3 : AH) (φ3 : List Plc) (i : Nat) (s3 : Shared) : Prop where
  dr : vs.drop i = rest
  le : i ≤ vs.length
  go : forGo (stays src vs) (bindT ts) (fun ρ H => exSs cf inits T.globs b ρ H) rest ρ3 H3 = some (fl, ρ', H')
  R : Rep T φ3 H3 s3
  F : Frame φ3 H3 s3.heap env vars ρ3
  x : IterAt s3.heap φ3 (Own φ3 H3) I i src
  S : Step (XOf env) φ1 H1 h1 φ3 H3 s3.heap
theorem snd_for {ts : List Nat} {it : Ex} {b : Sts} (ii : SndE prog T cf inits D U it) (ib : SndSs prog T cf inits D U b) : SndS prog T cf inits D U (.for ts it b) := by
  intro vars env ρ ρ' st H H' fl φ s A hck hev c
  refine sFo_el st hck fun t x y o sp hck => and_el hck fun h0 hck => em_el o h0 (bo_el hck fun tn htn hck => and_el hck fun k1 hck => and_el hck fun k2 k3 =>
    ob_el hev fun src H1 h1 hev => oo_el hev fun vs h2 hev => og_el hev fun _ hev => wpAny_For (ii.go k2 h1 c fun xv s1 φ1 R1 S1 V1 => iter_start h2 R1 V1 fun s2 I R2 hk2 hI hIo x2 => ?_) fun _ => set_plain (ck_shape k2))
  have hBI : T.B.get? I = none := by
    cases q : T.B.get? I with
    | none => rfl
    | some o => rw [R1.base I o q] at hI; cases hI
  have S2 : Step NoX φ1 H1 s1.heap φ1 H1 s2.heap := Step.grow hk2
  refine codeAny_forLoop_any (fun n s3 => ∃ rest ρ3 H3 φ3 i, n = rest.length + 1 ∧ ForAt T cf inits b ts env vars src vs I φ1 H1 s1.heap fl ρ' H' rest ρ3 H3 φ3 i s3) ?_ (vs.length + 1) ⟨vs, ρ, H1, φ1, 0, rfl, ⟨List.drop_zero, Nat.zero_le _, hev, R2, (c.fr.step0 c.rep S1).step0 R1 S2, x2, S2.noX⟩⟩
  rintro n s3 ⟨rest, ρ3, H3, φ3, i, rfl, ⟨hdr, hi, hgo, R3, F3, x3, S3⟩⟩
  cases rest with
  | nil =>
    refine og_el hgo fun hc hgo => iter_end c.hh (source_stays h2 hc) R3 (drop_nil hdr hi ▸ x3) hBI fun s4 R4 he => s3_el hgo ?_
    exact wpAny_execs_nil ⟨φ3, R4, S1.noX.trans (S3.new1 hI he), F3.ext x3 he, rfl⟩
  | cons v rest =>
    obtain ⟨hvi, hlt, hdr'⟩ := drop_cons hdr
    refine og_el hgo fun hc hgo => oo_el hgo fun ρ4 hb hgo => iter_next (source_stays h2 hc) hvi R3 x3 hBI fun s4 cv R4 hs4 x4 V4 => ?_
    have S4 : Step (XOf env) φ1 H1 s1.heap φ3 H3 s4.heap := S3.new1 hI hs4.extBut
    have F4 := F3.ext x3 hs4.extBut
    refine letGo_ok x4 (bind_ok (X := XOf env) c.hh c.ke htn k1 hb R4 F4 V4 XOf.loc (fun y _ c' a b => XOf.cell c' a b) fun s5 R5 F5 S5 => ?_)
    have x5 : IterAt s5.heap φ3 (Own φ3 H3) I (i + 1) src := x4.step S5 (not_own_of R4 x4) (not_XOf F4 x4)
    refine oS_el hgo (fun u e h6 => ?_) fun ρ6 H6 h6 hgo => ib.next k3 h6 (c.stepS R5 F5) fun s6 φ6 R6 S6 F6 =>
      ⟨rest.length + 1, Nat.lt_succ_self _, rest, ρ6, H6, φ6, i + 1, rfl, ⟨hdr', hlt, hgo, R6, F6, x5.step S6 (not_own_of R5 x5) (not_XOf F5 x5), (S4.trans S5).trans S6⟩⟩
    subst e
    exact ib.ret k3 h6 (c.stepS R5 F5) fun cu s6 φ6 R6 S6 F6 V6 => ⟨φ6, R6, S1.noX.trans ((S4.trans S5).trans S6), F6, cu, rfl, V6⟩

variable (G : Good T) (C : CallsOk prog T cf inits D U) (hU : U + 100 < cLine)
include G C hU
mutual
theorem sndS_all : ∀ x : St, SndS prog T cf inits D U x
  | .assign _ _ => snd_assign G C hU
  | .assignTup _ e => snd_assignTup (snd_all G C hU e).1
  | .setAttr o _ e => snd_setAttr G (snd_all G C hU o).1 (snd_all G C hU e).1
  | .setItem o i e => snd_setItem (snd_all G C hU o).1 (snd_all G C hU i).1 (snd_all G C hU e).1
  | .aug _ _ e => snd_aug (snd_all G C hU e).1
  | .augItem a i _ e => snd_augItem (snd_all G C hU a).1 (snd_all G C hU i).1 (snd_all G C hU e).1
  | .expr e => snd_expr (snd_all G C hU e).1
  | .ite t b o => snd_ifS (snd_all G C hU t).2 (sndS_alls b) (sndS_alls o)
  | .while t b => snd_while (snd_all G C hU t).2 (sndS_alls b)
  | .for _ it b => snd_for (snd_all G C hU it).1 (sndS_alls b)
  | .ret e => snd_ret (snd_all G C hU e).1
  | .stop => snd_stop
theorem sndS_alls : ∀ xs : Sts, SndSs prog T cf inits D U xs
  | .nil => snd_ss_nil
  | .cons x xs => snd_ss_cons (sndS_all x) (sndS_alls xs)
end
end
end Mine
end

section
set_option maxRecDepth 100000
open PySem PySem.W PyProof.Rows
namespace Mine

theorem bindL_other {k : Str → Option NameKind} : ∀ {bs : List (Str × Value)} {m : Str → Option Value} {x : Str}, x ∉ bs.map (·.1) → bindL k bs m x = m x
  | [], _, _, _ => rfl
  | (n, v) :: r, m, x, h => by
    have hx : x ≠ n := fun q => h (by simp [q])
    unfold bindL
    rw [bindL_other (fun q => h (by simp [q]))]
    split
    · exact if_neg hx
    · rfl
theorem bindC_other {k : Str → Option NameKind} : ∀ {bs : List (Str × Value)} {m : Str → Option Value} {x : Str}, x ∉ bs.map (·.1) → bindC k bs m x = m x
  | [], _, _, _ => rfl
  | (n, v) :: r, m, x, h => by
    have hx : x ≠ n := fun q => h (by simp [q])
    unfold bindC
    rw [bindC_other (fun q => h (by simp [q]))]
    split
    · rfl
    · exact if_neg hx
theorem bindL_get {k : Str → Option NameKind} : ∀ {bs : List (Str × Value)} {m : Str → Option Value} {x : Str} {v : Value}, (bs.map (·.1)).Nodup → (x, v) ∈ bs → k x = some .local → bindL k bs m x = some v
  | (n, u) :: r, m, x, v, hn, h, hk => by
    rw [List.map_cons, List.nodup_cons] at hn
    unfold bindL
    rcases List.mem_cons.mp h with h | h
    · cases h
      rw [bindL_other hn.1, if_pos hk, if_pos rfl]
    · exact bindL_get hn.2 h hk
theorem bindC_get {k : Str → Option NameKind} : ∀ {bs : List (Str × Value)} {m : Str → Option Value} {x : Str} {v : Value}, (bs.map (·.1)).Nodup → (x, v) ∈ bs → k x = some .cell → bindC k bs m x = some v
  | (n, u) :: r, m, x, v, hn, h, hk => by
    rw [List.map_cons, List.nodup_cons] at hn
    unfold bindC
    rcases List.mem_cons.mp h with h | h
    · cases h
      rw [bindC_other hn.1, if_neg (by rw [hk]; decide), if_pos rfl]
    · exact bindC_get hn.2 h hk
theorem cellsFrom_old : ∀ {names : List (Str × NameKind)} {n : Nat} {acc : List (Str × Addr)} {p : Str × Addr}, p ∈ acc → p ∈ cellsFrom n names acc
  | [], _, _, _, h => h
  | (x, k) :: r, n, acc, p, h => by
    unfold cellsFrom
    split
    · exact cellsFrom_old (by simp [h])
    · exact cellsFrom_old h
theorem cellsFrom_has : ∀ {names : List (Str × NameKind)} {n : Nat} {acc : List (Str × Addr)} {x : Str}, (x, NameKind.cell) ∈ names → ∃ c, (x, c) ∈ cellsFrom n names acc
  | (y, k) :: r, n, acc, x, h => by
    unfold cellsFrom
    rcases List.mem_cons.mp h with h | h
    · cases h
      simp only [beq_self_eq_true, if_true]
      exact ⟨_, cellsFrom_old List.mem_cons_self⟩
    · split
      · exact cellsFrom_has h
      · exact cellsFrom_has h

structure FnOk (T : Tabs) (fd : FnDef) (a : Addr) (o : Obj) (d : FuncData) (vars : List Str) (body : List Stmt) : Prop where
  look : T.K.lookup a = some o
  data : o.data = .func d
  bd : d.body = .stmts body
  clo : d.closure = []
  gl : d.globals = mainGlobals
  bl : d.builtins = builtinsNs
  co : d.scope.isCoroutine = false
  gen : d.scope.isGenerator = false
  kind : d.scope.kind = .function
  code : codeIn T.K d.code d.qualname = true
  len : vars.length = fd.nv
  np : fd.np ≤ fd.nv
  bind : ∀ vals : List Value, vals.length = fd.np → bindArgs d ⟨vals, []⟩ = pure ((vars.take fd.np).zip vals)
  nd : nodupS vars = true
  kinds : vars.all (fun x => x != ("__debug__" : Str) && (d.scope.names.lookup x == some .local || d.scope.names.lookup x == some .cell)) = true
  ck : ckSs T.N vars d.scope fd.body body = true

section
variable {prog : Program} {T : Tabs} {cf : CallF} {inits : List Nat} {D U : Nat}

noncomputable def RetTo (Q : Value → Shared → Prop) : Result → Shared → Prop := fun r s' => match r with
  | .ok (.ret v) => Q v s'
  | .ok _ => False
  | .error e => NoE e s'

theorem zip_mem : ∀ {xs : List Str} {vs : List Value} {i : Nat} {x : Str} {v : Value}, xs[i]? = some x → vs[i]? = some v → (x, v) ∈ xs.zip vs
  | x :: xs, v :: vs, 0, _, _, h1, h2 => by simp at h1 h2; subst h1 h2; simp
  | x :: xs, v :: vs, i + 1, _, _, h1, h2 => by simp at h1 h2; simp; exact .inr (zip_mem h1 h2)
theorem zip_keys : ∀ (xs : List Str) (vs : List Value), ((xs.zip vs).map (·.1)).Sublist xs
  | [], _ => by simp
  | x :: xs, [] => by simp
  | x :: xs, v :: vs => by
    simp only [List.zip_cons_cons, List.map_cons]
    exact (zip_keys xs vs).cons_cons x

theorem call_ok (G : Good T) (C : CallsOk prog T cf inits (D + 1) (U + 3)) (hU : U + 3 + 100 < cLine) (hD : D < recursionLimit) (hlim : T.B.NoLimit) {fd : FnDef} {a : Addr} {o : Obj} {d : FuncData} {vars : List Str} {body : List Stmt} (F : FnOk T fd a o d vars body)
    {args : List PV} {H H' : AH} {v : PV} (hev : runFn cf inits T.globs fd args H = some (v, H')) {φ : List Plc} {s : Shared} {cs : List Value} {A : Around} (R : Rep T φ H s) (hv : VReps s.heap φ (Own φ H) args cs)
    (hh : A.handled = none) (hd : A.depth ≤ D) (hu : A.units ≤ U) :
    codeAny (model prog T.w) A (.call (.ref a) ⟨cs, []⟩) (RetTo (Post T NoX φ H s v H')) s := by
  refine og_el hev fun hlen hev => ?_
  replace hlen := of_decide_eq_true hlen
  have hnd := nodupS_nodup F.nd
  have hkeys : (((vars.take fd.np).zip cs).map (·.1)).Nodup := (zip_keys _ _).nodup ((List.take_sublist _ _).nodup hnd)
  have hkinds : ∀ x ∈ vars, (x == ("__debug__" : Str)) = false ∧ (d.scope.names.lookup x = some .local ∨ d.scope.names.lookup x = some .cell) := by
    intro x hx
    have := List.all_eq_true.mp F.kinds x hx
    simp only [Bool.and_eq_true, bne_iff_ne, ne_eq, Bool.or_eq_true, beq_iff_eq] at this
    exact ⟨beq_eq_false_iff_ne.mpr this.1, this.2⟩
  have hcells : ∀ {x : Str} {n : Nat}, d.scope.names.lookup x = some .cell → ∃ c, (cellsFrom n d.scope.names []).lookup x = some c := by
    intro x n hx
    obtain ⟨c, hc⟩ := cellsFrom_has (n := n) (acc := []) (lookup_mem' hx)
    exact lookup_of_mem hc
  have hobj := R.base _ _ (G.hK _ _ F.look)
  refine codeAny_call_cells (fd := d) (body := body) (binds := (vars.take fd.np).zip cs) (by omega) hobj F.data (hlim.keeps R.base) (codeRec_of (G.hK.keeps R.base) F.code) F.bd (F.bind cs (by rw [hv.length, hlen])) F.clo (fun y hy => ?_) (fun s1 x => ?_) F.co F.gen F.kind
  · have hm : y.1 ∈ vars := List.mem_of_mem_take (List.of_mem_zip hy).1
    rcases (hkinds _ hm).2 with h | h
    · exact .inl h
    · obtain ⟨c, hc⟩ := hcells (n := s.heap.objs.size + 1) h
      exact .inr ⟨h, by rw [hc]; rfl⟩
  · have hk1 := x.toInCall.keep
    have hnone : ∀ b : Addr, s.heap.objs.size ≤ b → T.B.get? b = none := fun b hb => by
      cases q : T.B.get? b with
      | none => rfl
      | some o' => exact absurd (Heap.lt_size (R.base _ _ q)) (Nat.not_lt.mpr hb)
    have hcl : (callEnvC d s.heap.objs.size a).cells = cellsFrom (s.heap.objs.size + 1) d.scope.names [] := rfl
    have hlow : ∀ y c, (callEnvC d s.heap.objs.size a).cells.lookup y = some c → s.heap.objs.size ≤ c := fun y c e => Nat.le_of_lt (x.above y c (lookup_mem' e))
    have KE : EnvOk T (callEnvC d s.heap.objs.size a) vars := by
      refine ⟨F.kind, F.gl, F.bl, hnd, fun y hy => ⟨(hkinds y hy).1, ?_⟩, hnone _ (Nat.le_refl _), fun y c e => hnone _ (hlow y c e), fun y z c e1 e2 => name_of_addr x.apart (lookup_mem' e1) (lookup_mem' e2), fun y hy => hcells hy⟩
      rcases (hkinds y hy).2 with h | h
      · exact .inl h
      · exact .inr ⟨h, hcells h⟩
    obtain ⟨h', tk, rfl⟩ := x.toInCall.same
    have R1 : Rep T φ H { s with heap := h', toks := tk } := R.grow hk1 tk
    have S1 : Step NoX φ H s.heap φ H h' := Step.grow hk1
    have hv1 := S1.vreps hv
    have hρ : ∀ (i : Nat) (y : Str) (u : PV), vars[i]? = some y → (args.map some ++ List.replicate (fd.nv - fd.np) none)[i]? = some (some u) → ∃ cu, (y, cu) ∈ (vars.take fd.np).zip cs ∧ VRep h' φ (Own φ H) u cu := by
      intro i y u h1 h2
      by_cases hi : i < args.length
      · rw [List.getElem?_append_left (by simpa using hi), List.getElem?_map] at h2
        obtain ⟨u', h3, h4⟩ := Option.map_eq_some_iff.mp h2
        cases h4
        obtain ⟨cu, h5, h6⟩ := hv1.get h3
        refine ⟨cu, zip_mem (i := i) ?_ h5, h6⟩
        rw [List.getElem?_take, if_pos (by omega)]; exact h1
      · rw [List.getElem?_append_right (by simpa using hi), List.getElem?_replicate] at h2
        split at h2 <;> cases h2
    have F1 : Frame φ H h' (callEnvC d s.heap.objs.size a) vars (args.map some ++ List.replicate (fd.nv - fd.np) none) := by
      refine ⟨?_, fun q => Nat.lt_irrefl _ (R.own_lt q), ⟨_, x.toInCall.ns, fun i y u h1 h2 h3 => ?_⟩, fun y c hc => ⟨_, x.cell y c hc, fun i u h1 h2 h3 => ?_⟩⟩
      · have := F.np
        simp [F.len, hlen]; omega
      · obtain ⟨cu, k1, k2⟩ := hρ i y u h1 h3
        exact ⟨cu, bindL_get hkeys k1 h2, k2⟩
      · obtain ⟨cu, k1, k2⟩ := hρ i y u h1 h3
        exact ⟨cu, bindC_get hkeys k1 h2, k2⟩
    have cond : Cond T (D + 1) (U + 3) vars (callEnvC d s.heap.objs.size a) (args.map some ++ List.replicate (fd.nv - fd.np) none) φ H { s with heap := h', toks := tk } (A.deeper (callEnvC d s.heap.objs.size a)) :=
      ⟨hh, Nat.add_le_add_right hd 1, Nat.add_le_add_right hu 3, KE, R1, F1⟩
    have hXn : ∀ b, XOf (callEnvC d s.heap.objs.size a) b → s.heap.get? b = none := by
      rintro b (rfl | ⟨y, hy⟩)
      · exact none_size _
      · exact none_above (hlow y b hy)
    refine rt_el hev (fun u ρ1 H1 hrun hfz => ?_) fun ρ1 hrun e => ?_
    · obtain ⟨rfl, rfl⟩ : (Mine.freeze H.length u H1).1 = v ∧ (Mine.freeze H.length u H1).2 = H' := by rw [hfz]; exact ⟨rfl, rfl⟩
      refine (sndS_alls G C hU fd.body).ret F.ck hrun cond fun cv s2 φ2 R2 S2 F2 V2 => ?_
      have S02 : Step NoX φ H s.heap φ2 H1 s2.heap := Step.above hk1 hXn S2
      show Post T NoX φ H s _ _ cv s2
      unfold Mine.freeze
      split
      · rename_i l
        split
        · split
          · rename_i vs hl
            exact ⟨φ2, R2.freeze, S02.trans Step.freeze, VRep.freeze R2 hl V2⟩
          · exact ⟨φ2, R2, S02, V2⟩
        · exact ⟨φ2, R2, S02, V2⟩
      · exact ⟨φ2, R2, S02, V2⟩
    · subst e
      exact (sndS_alls G C hU fd.body).next F.ck hrun cond fun s2 φ2 R2 S2 F2 => ⟨φ2, R2, Step.above hk1 hXn S2, VRep.none'⟩
end
end Mine
end

section
set_option maxRecDepth 100000
open PySem PySem.W PyProof.Rows
namespace Mine

noncomputable def FnGood (T : Tabs) (fd : FnDef) (a : Addr) : Prop := (∃ o d vars body, FnOk T fd a o d vars body) ∨ fd.body = .cons .stop .nil
structure ClsMk (T : Tabs) (C fI : Addr) : Prop where
  makes : makesIn T.K C = true
  ini : findIn T.K (.ref C) "__init__" = some (some (.ref fI))
  typ : typeIn T.K (.ref fI) = some (.type "function")

theorem tc_weight (a : Addr) (rest : List Value) (kw : List (Str × Value)) : (Code.builtin "type.__call__" ⟨.ref a :: rest, kw⟩).weight = 1 := by rfl
theorem tc_units (a : Addr) (rest : List Value) (kw : List (Str × Value)) : (Code.builtin "type.__call__" ⟨.ref a :: rest, kw⟩).cUnits = 1 := by rfl

section
variable {prog : Program} {T : Tabs} {cf : CallF} {inits : List Nat} {fns : List FnDef} {D U : Nat}

theorem CallsOk.mono {D' U' : Nat} (C : CallsOk prog T cf inits D U) (h1 : D' ≤ D) (h2 : U' ≤ U) : CallsOk prog T cf inits D' U' :=
  ⟨fun f a vs H v H' φ s cs A e1 e2 e3 e4 e5 e6 e7 => C.fn f a vs H v H' φ s cs A e1 e2 e3 e4 e5 (by lia) (by lia),
   fun f a vs H v H' φ s cs A e1 e2 e3 e4 e5 e6 e7 => C.cls f a vs H v H' φ s cs A e1 e2 e3 e4 e5 (by lia) (by lia)⟩

theorem retTo_wp {Q : Value → Shared → Prop} {s : Shared} {A : Around} {f : Value} {cs : List Value} (h : codeAny (model prog T.w) A (.call f ⟨cs, []⟩) (RetTo Q) s) : wpAny (model prog T.w) A (PySem.call f cs) Q NoE s := by
  refine wpAny_call (codeAny_mono h fun r s' hr => ?_)
  rcases r with e | (v | _ | _ | _) <;> exact hr

theorem calls_step (G : Good T) (hlim : T.B.NoLimit) (hfns : ∀ (f : Nat) (fd : FnDef) (a : Addr), fns[f]? = some fd → T.fadr[f]? = some a → FnGood T fd a)
    (hcls : ∀ (c f : Nat) (C : Addr), T.clss[c]? = some C → inits[c]? = some f → ∃ fI, T.fadr[f]? = some fI ∧ ClsMk T C fI) {n : Nat}
    (C : CallsOk prog T (callN inits T.globs fns n) inits (D + 10) (U + 10)) (hU : U + 10 + 100 < cLine) (hD : D + 10 < recursionLimit) :
    CallsOk prog T (callN inits T.globs fns (n + 1)) inits D U := by
  have fnc : ∀ (D' U' : Nat), D' ≤ D + 5 → U' ≤ U + 5 → ∀ (f : Nat) (a : Addr) (vs : List PV) (H : AH) (v : PV) (H' : AH) (φ : List Plc) (s : Shared) (cs : List Value) (A : Around), callN inits T.globs fns (n + 1) f vs H = some (v, H') → T.fadr[f]? = some a → Rep T φ H s → VReps s.heap φ (Own φ H) vs cs →
      A.handled = none → A.depth ≤ D' → A.units ≤ U' → codeAny (model prog T.w) A (.call (.ref a) ⟨cs, []⟩) (RetTo (Post T NoX φ H s v H')) s := by
    intro D' U' hD' hU' f a vs H v H' φ s cs A e1 e2 R hv e5 e6 e7
    refine oo_el e1 fun fd hfd e1 => ?_
    rcases hfns f fd a hfd e2 with ⟨o, d, vars, body, F⟩ | hst
    · exact call_ok G (C.mono (by lia) (by lia)) (by lia) (by lia) hlim F e1 R hv e5 e6 e7
    · refine og_el e1 fun _ e1 => ?_
      rw [hst] at e1
      exact nse e1
  refine ⟨fun f a vs H v H' φ s cs A e1 e2 R hv e5 e6 e7 => retTo_wp (fnc D U (by lia) (by lia) f a vs H v H' φ s cs A e1 e2 R hv e5 e6 e7), fun c Cc vs H v H' φ s cs A e1 e2 R hv e5 e6 e7 => retTo_wp ?_⟩
  refine oo_el e1 fun f hf e1 => obn_el e1 fun H1 hrun e1 => ?_
  cases e1
  obtain ⟨fI, g1, g2⟩ := hcls _ f Cc e2 hf
  obtain ⟨hp, gens, drawn, tk, os⟩ := s
  have hKs : T.K.In hp := G.hK.keeps R.base
  refine make_core (makes_of hKs g2.makes) (looks_findIn hKs g2.ini) (fun self => bind_fn hKs self g2.typ) (.inl rfl) ?_
  have k : ∀ b o, hp.get? b = some o → ((hp.push emptyDict).push (instObj Cc hp.objs.size)).get? b = some o := fun b o e => Heap.get?_push_of_some _ (Heap.get?_push_of_some _ e)
  have hx : ((hp.push emptyDict).push (instObj Cc hp.objs.size)).get? (hp.objs.size + 1) = some (instObj Cc hp.objs.size) := by
    have := Heap.get?_push_size (hp.push emptyDict) (o := instObj Cc hp.objs.size) rfl
    rwa [Heap.size_push] at this
  have hd : ((hp.push emptyDict).push (instObj Cc hp.objs.size)).get? hp.objs.size = some (dictOf [] 0) := Heap.get?_push_of_some _ (Heap.get?_push_size _ rfl)
  have hsz : hp.objs.size < hp.objs.size + 1 := Nat.lt_succ_self _
  have R1 : Rep T (φ ++ [⟨hp.objs.size + 1, hp.objs.size⟩]) (H ++ [.inst c []]) ⟨(hp.push emptyDict).push (instObj Cc hp.objs.size), gens, drawn, tk, os⟩ :=
    R.alloc (sl := ⟨hp.objs.size + 1, hp.objs.size⟩) (o := .inst c []) k (Nat.le_succ _) (Nat.le_refl _)
      ⟨hp.objs.size + 1, hp.objs.size, Cc, [], 0, by rw [← R.len]; simp, e2, hx, hd, rfl⟩ tk
  have S1 : Step NoX φ H hp (φ ++ [⟨hp.objs.size + 1, hp.objs.size⟩]) (H ++ [.inst c []]) ((hp.push emptyDict).push (instObj Cc hp.objs.size)) :=
    Step.alloc (sl := ⟨hp.objs.size + 1, hp.objs.size⟩) (o := .inst c []) R k (Nat.le_succ _) (Nat.le_refl _)
  have V1 : VRep ((hp.push emptyDict).push (instObj Cc hp.objs.size)) (φ ++ [⟨hp.objs.size + 1, hp.objs.size⟩]) (Own (φ ++ [⟨hp.objs.size + 1, hp.objs.size⟩]) (H ++ [.inst c []])) (.loc H.length) (.ref (hp.objs.size + 1)) := by
    unfold VRep
    exact ⟨⟨hp.objs.size + 1, hp.objs.size⟩, by rw [← R.len]; simp, rfl⟩
  refine codeAny_mono (fnc (D + 1) (U + 1) (by lia) (by lia) f fI (.loc H.length :: vs) (H ++ [.inst c []]) .none H' _ _ (.ref (hp.objs.size + 1) :: cs) _ hrun g1 R1 (.cons V1 (S1.vreps hv)) e5 ?_ ?_) fun r s' hr => ?_
  · show A.depth + _ ≤ _
    rw [tc_weight]; lia
  · show A.units + _ ≤ _
    rw [tc_units]; lia
  · rcases r with e | (u | _ | _ | _) <;> first | exact hr | skip
    obtain ⟨φ2, R2, S2, V2⟩ := hr
    refine ⟨V2.none_inv, φ2, R2, S1.trans S2, ?_⟩
    unfold VRep at V1 ⊢
    obtain ⟨sl, h1, h2⟩ := V1
    exact ⟨sl, S2.pre _ _ h1, h2⟩

theorem calls_all (G : Good T) (hlim : T.B.NoLimit) (hfns : ∀ (f : Nat) (fd : FnDef) (a : Addr), fns[f]? = some fd → T.fadr[f]? = some a → FnGood T fd a)
    (hcls : ∀ (c f : Nat) (C : Addr), T.clss[c]? = some C → inits[c]? = some f → ∃ fI, T.fadr[f]? = some fI ∧ ClsMk T C fI) : ∀ (n D U : Nat), U + 10 * n + 100 < cLine → D + 10 * n < recursionLimit →
    CallsOk prog T (callN inits T.globs fns n) inits D U
  | 0, D, U, _, _ => by
    exact ⟨fun f a vs H v H' φ s cs A e1 => nse e1, fun c Cc vs H v H' φ s cs A e1 => oo_el e1 fun f hf e1 => nse e1⟩
  | n + 1, D, U, hU, hD => calls_step G hlim hfns hcls (calls_all G hlim hfns hcls n (D + 10) (U + 10) (by lia) (by lia)) (by lia) (by lia)
end
end Mine
end

section
namespace Mine
noncomputable def tupI (l : List Int) : PV := .tup (l.map .int)
noncomputable def theGlobs : List PV := [.int 0, .int 1, .int 1, .int 0, tupI [0, 1, 0, -1, 1, 1, -1, -1], tupI [1, 0, -1, 0, 1, -1, -1, 1]]
noncomputable def theFns : List FnDef := [d_count_bits, d_squares_of, d_own_rank, d_divide, d_make_score, d_PawnFacts_init, d_pawns_of, d_shift_up, d_neighbours, d_fill_up, d_front_span, d_attack_span, d_pawn_attacks, d_candidates_of, d_pawn_facts, d_connected_score, d_one_pawn_score, d_pawn_score, d_Geometry_init, d_is_growing, d_add_masks, d_inner_squares, d_add_rays, d_add_pawns, d_add_knights, d_add_castles, d_make_geometry, d_Position_init, d_law_bits, d_law_ahead, d_law_pawn, d_law_score, d_law_seen, d_law_position]
noncomputable abbrev run (n : Nat) : CallF := callN inits theGlobs theFns n
end Mine
end

section
set_option maxRecDepth 100000
namespace Mine
open PySem.Builtin

noncomputable def andn (a b : Nat) : Nat := a ^^^ (a &&& b)
theorem andn_bit (a b i : Nat) : (andn a b).testBit i = (a.testBit i && !b.testBit i) := by
  simp only [andn, Nat.testBit_xor, Nat.testBit_and]
  cases a.testBit i <;> cases b.testBit i <;> rfl
theorem andn_add (a b : Nat) : andn a b + (a &&& b) = a := by
  have h : andn a b &&& (a &&& b) = 0 := by
    apply Nat.eq_of_testBit_eq; intro i
    simp only [andn, Nat.testBit_and, Nat.testBit_xor, Nat.zero_testBit]
    cases a.testBit i <;> cases b.testBit i <;> rfl
  have h2 : andn a b ||| (a &&& b) = a := by
    apply Nat.eq_of_testBit_eq; intro i
    simp only [andn, Nat.testBit_and, Nat.testBit_xor, Nat.testBit_or]
    cases a.testBit i <;> cases b.testBit i <;> rfl
  have := PyProof.Rows.nat_or_add_and (andn a b) (a &&& b)
  lia
theorem bandN (a b : Nat) : bitAnd (a : Int) (b : Int) = ((a &&& b : Nat) : Int) := by
  rw [PyProof.Rows.bitAnd_pp (by lia) (by lia)]; simp
theorem bandnN (a b : Nat) : bitAnd (a : Int) (bitNot (b : Int)) = ((andn a b : Nat) : Int) := by
  rw [PyProof.Rows.bitAnd_not, bandN]
  have := andn_add a b
  lia
theorem borN (a b : Nat) : bitOr (a : Int) (b : Int) = ((a ||| b : Nat) : Int) := by
  rw [PyProof.Rows.bitOr_and, bandN]
  have := PyProof.Rows.nat_or_add_and a b
  lia
theorem shlN (a n : Nat) : (a : Int) * 2 ^ n = ((a <<< n : Nat) : Int) := by
  rw [Nat.shiftLeft_eq]; simp
theorem shrN (a n : Nat) : (a : Int).fdiv (2 ^ n) = ((a >>> n : Nat) : Int) := by
  rw [Nat.shiftRight_eq_div_pow, Int.fdiv_eq_ediv_of_nonneg]
  · simp
  · exact Int.le_of_lt (Int.pow_pos (by decide))
end Mine
end

section
set_option linter.unusedSimpArgs false
set_option maxRecDepth 100000
namespace Mine
open PySem.Builtin

structure Box (P : Prop) : Prop where
  out : P
theorem box_eq {P : Prop} : Box P = P := propext ⟨fun h => h.out, fun h => ⟨h⟩⟩
noncomputable def mX {α : Type} (o : Option α) (Q : α → Prop) : Prop := match o with
  | some v => Q v
  | none => False
noncomputable def mO {α : Type} (o : Option (α × AH)) (Q : α → AH → Prop) : Prop := mX o fun p => Q p.1 p.2
structure wpX {α : Type} (o : Option α) (Q : α → Prop) : Prop where
  out : mX o Q
theorem wpX_m {α : Type} {o : Option α} {Q : α → Prop} : wpX o Q = mX o Q := propext ⟨fun h => h.out, fun h => ⟨h⟩⟩
theorem z1w {α : Type} {v : α} {Q : α → Prop} : mX (some v) Q = Q v := rfl
structure wpO {α : Type} (o : Option (α × AH)) (Q : α → AH → Prop) : Prop where
  out : mO o Q
theorem wpO_m {α : Type} {o : Option (α × AH)} {Q : α → AH → Prop} : wpO o Q = mO o Q := propext ⟨fun h => h.out, fun h => ⟨h⟩⟩
theorem z47 {α : Type} {v : α} {Q : α → Prop} : wpX (some v) Q = Q v := wpX_m
theorem z3d {α : Type} {v : α} {H : AH} {Q : α → AH → Prop} : wpO (some (v, H)) Q = Q v H := wpO_m
theorem wpO_none {α : Type} {Q : α → AH → Prop} : wpO none Q = False := wpO_m
theorem wpO_inv {α : Type} {o : Option (α × AH)} {Q : α → AH → Prop} (h : wpO o Q) : ∃ v H, o = some (v, H) ∧ Q v H := by
  rcases o with _ | ⟨v, H⟩
  · exact h.out.elim
  · exact ⟨v, H, rfl, h.out⟩
theorem wpO_of {α : Type} {o : Option (α × AH)} {Q : α → AH → Prop} {v : α} {H : AH} (e : o = some (v, H)) (h : Q v H) : wpO o Q := by subst e; exact ⟨h⟩
theorem mO_mono {α : Type} {o : Option (α × AH)} {Q Q' : α → AH → Prop} (h : mO o Q) (k : ∀ v H, Q v H → Q' v H) : mO o Q' := by
  rcases o with _ | ⟨v, H⟩
  · exact h.elim
  · exact k _ _ h
theorem wpO_mono {α : Type} {o : Option (α × AH)} {Q Q' : α → AH → Prop} (h : wpO o Q) (k : ∀ v H, Q v H → Q' v H) : wpO o Q' := ⟨mO_mono h.out k⟩
theorem wpO_eq {α : Type} {o : Option (α × AH)} {v : α} {H : AH} : wpO o (fun a b => a = v ∧ b = H) → o = some (v, H) := by
  rcases o with _ | ⟨a, b⟩
  · exact fun h => h.out.elim
  · rintro ⟨rfl, rfl⟩; rfl
noncomputable def wpTr (v : PV) (Q : Bool → Prop) : Prop := match v with
  | .none => Q false
  | .bool b => Q b
  | .int i => Q (decide (i ≠ 0))
  | .tup c => wpX (truthy (.tup c)) Q
  | .lst c => wpX (truthy (.lst c)) Q
  | .rng a b c => wpX (truthy (.rng a b c)) Q
  | .loc l => wpX (truthy (.loc l)) Q
theorem z44 {v : PV} {Q : Bool → Prop} : wpTr v Q = mX (truthy v) Q := by cases v <;> first | rfl | exact wpX_m
noncomputable def wpV (o : Option (Option PV)) (Q : PV → Prop) : Prop := match o with
  | some (some v) => Q v
  | _ => False
theorem z46 {v : PV} {Q : PV → Prop} : wpV (some (some v)) Q = Q v := rfl
noncomputable def wpI (v : PV) (Q : Int → Prop) : Prop := match v with
  | .int i => Q i
  | _ => False
theorem z3b {i : Int} {Q : Int → Prop} : wpI (.int i) Q = Q i := rfl
noncomputable def wpN (v : PV) (Q : Prop) : Prop := match v with
  | .none => Q
  | _ => False
theorem z3c {Q : Prop} : wpN .none Q = Q := rfl
noncomputable def wpL (H : AH) (v : PV) (Q : Nat → List PV → Prop) : Prop := match v with
  | .loc l => match H[l]? with
    | some (.list vs) => Q l vs
    | _ => False
  | _ => False
theorem z45 {Q : Bool → Prop} : wpTr .none Q = Q false := rfl
theorem z42 {b : Bool} {Q : Bool → Prop} : wpTr (.bool b) Q = Q b := rfl
theorem z43 {i : Int} {Q : Bool → Prop} : wpTr (.int i) Q = Q (decide (i ≠ 0)) := rfl
noncomputable def wbi (H : AH) (o : Bop) (a b : Int) (Q : PV → AH → Prop) : Prop := match o with
  | .add => Q (.int (a + b)) H
  | .sub => Q (.int (a - b)) H
  | .mul => (small a || small b) = true ∧ Q (.int (a * b)) H
  | .fdiv => (!decide (b = 0) && decide (b.natAbs < 1073741824)) = true ∧ Q (.int (a.fdiv b)) H
  | .mod => (!decide (b = 0) && decide (b.natAbs < 1073741824)) = true ∧ Q (.int (a.fmod b)) H
  | .shl => (decide (0 ≤ b) && decide (b ≤ 1000000) && small a) = true ∧ Q (.int (a * 2 ^ b.toNat)) H
  | .shr => decide (0 ≤ b) = true ∧ Q (.int (a.fdiv (2 ^ b.toNat))) H
  | .band => Q (.int (bitAnd a b)) H
  | .bor => Q (.int (bitOr a b)) H
noncomputable def wbin (H : AH) (o : Bop) (x y : PV) (Q : PV → AH → Prop) : Prop := match x with
  | .int a => match y with
    | .int b => wbi H o a b Q
    | .none => wpO (binop H o (.int a) .none) Q
    | .bool c => wpO (binop H o (.int a) (.bool c)) Q
    | .tup c => wpO (binop H o (.int a) (.tup c)) Q
    | .lst c => wpO (binop H o (.int a) (.lst c)) Q
    | .rng c d e => wpO (binop H o (.int a) (.rng c d e)) Q
    | .loc c => wpO (binop H o (.int a) (.loc c)) Q
  | .none => wpO (binop H o .none y) Q
  | .bool c => wpO (binop H o (.bool c) y) Q
  | .tup c => wpO (binop H o (.tup c) y) Q
  | .lst c => wpO (binop H o (.lst c) y) Q
  | .rng c d e => wpO (binop H o (.rng c d e) y) Q
  | .loc c => wpO (binop H o (.loc c) y) Q
theorem z24 {H : AH} {o : Bop} {a b : Int} {Q : PV → AH → Prop} : wbin H o (.int a) (.int b) Q = wbi H o a b Q := rfl
theorem z25 {H : AH} {o : Bop} {l : Nat} {y : PV} {Q : PV → AH → Prop} : wbin H o (.loc l) y Q = wpO (binop H o (.loc l) y) Q := rfl
section
variable {α β γ : Type} {F : β → Prop}
theorem bind_ob {r : Option (α × AH)} {k : α → AH → Option β} {K : α → AH → Prop} (h : ∀ x H, K x H = mX (k x H) F) : mO r K = mX (ob r k) F := by
  cases r with
  | none => rfl
  | some p => exact h p.1 p.2
theorem bind_oo {r : Option α} {k : α → Option β} {K : α → Prop} (h : ∀ x, K x = mX (k x) F) : mX r K = mX (oo r k) F := by
  cases r with
  | none => rfl
  | some p => exact h p
theorem bind_wX {r : Option α} {k : α → Option β} {K : α → Prop} (h : ∀ x, K x = mX (k x) F) : wpX r K = mX (oo r k) F := wpX_m.trans (bind_oo h)
theorem bind_og {c : Bool} {k : Option β} {P : Prop} (h : P = mX k F) : (c = true ∧ P) = mX (og c k) F := by
  cases c with
  | false => exact propext ⟨fun q => (bft q.1).elim, fun q => q.elim⟩
  | true => exact propext ⟨fun q => h ▸ q.2, fun q => ⟨rfl, h.symm ▸ q⟩⟩
theorem bind_og' {c : Prop} [Decidable c] {k : Option β} {P : Prop} (h : P = mX k F) : (c ∧ P) = mX (og (decide c) k) F := by
  rw [← bind_og h, yy6]
theorem bind_oi {v : PV} {k : Int → Option β} {K : Int → Prop} (h : ∀ x, K x = mX (k x) F) : wpI v K = mX (oi v k) F := by
  cases v with
  | int i => exact h i
  | _ => rfl
theorem bind_on {v : PV} {k : Option β} {P : Prop} (h : P = mX k F) : wpN v P = mX (on v k) F := by
  cases v with
  | none => exact h
  | _ => rfl
theorem bind_V {r : Option (Option PV)} {k : PV → Option β} {K : PV → Prop} (h : ∀ x, K x = mX (k x) F) : wpV r K = mX (oo r fun o => oo o k) F := by
  rcases r with _ | _ | v
  · rfl
  · rfl
  · exact h v
theorem bind_oL {H : AH} {l : Nat} {k : List PV → Option β} {K : Nat → List PV → Prop} (h : ∀ x, K l x = mX (k x) F) : wpL H (.loc l) K = mX (oL H l k) F := by
  show (match H[l]? with | some (.list vs) => K l vs | _ => False) = mX (match H[l]? with | some (.list vs) => k vs | _ => none) F
  rcases H[l]? with _ | _ | vs | _
  · rfl
  · rfl
  · exact h vs
  · rfl
theorem bind_tr {r : Option (PV × AH)} {k : Bool → AH → Option β} {K : Bool → AH → Prop} (h : ∀ x H, K x H = mX (k x H) F) : (mO r fun v H1 => wpTr v fun b => K b H1) = mX (ob (vTrue r) k) F := by
  rcases r with _ | ⟨v, H⟩
  · rfl
  · show wpTr v (fun b => K b H) = mX (ob (oo (truthy v) _) k) F
    rw [z44]
    cases truthy v with
    | none => rfl
    | some b => exact h b H
end
theorem wbi_eq {H : AH} {o : Bop} {a b : Int} {Q : PV → AH → Prop} : wbi H o a b Q = mO (binI H o a b) Q := by
  cases o <;> first | rfl | exact bind_og rfl
theorem z23 {H : AH} {o : Bop} {x y : PV} {Q : PV → AH → Prop} : wbin H o x y Q = mO (binop H o x y) Q := by
  cases x <;> try exact wpO_m
  cases y <;> first | exact wpO_m | exact wbi_eq
structure wpCo (n : Nat) (l : Nat) (src : PV) (vs0 : List PV) (nt : Nat) (ρ0 : Vars) (elt : Ex) (conds : Exs) (vs : List PV) (H : AH) (Q : AH → Prop) : Prop where
  out : mX (compGo l (stays src vs0) (fun v => bindT (List.range nt) v ρ0) (fun ρ' H' => evTests (run n) inits theGlobs ρ' conds H') (fun ρ' H' => evE (run n) inits theGlobs ρ' elt H') vs H) Q
theorem wpCo_m {n : Nat} {l : Nat} {src : PV} {vs0 : List PV} {nt : Nat} {ρ0 : Vars} {elt : Ex} {conds : Exs} {vs : List PV} {H : AH} {Q : AH → Prop} : wpCo n l src vs0 nt ρ0 elt conds vs H Q =
  mX (compGo l (stays src vs0) (fun v => bindT (List.range nt) v ρ0) (fun ρ' H' => evTests (run n) inits theGlobs ρ' conds H') (fun ρ' H' => evE (run n) inits theGlobs ρ' elt H') vs H) Q := propext ⟨fun h => h.out, fun h => ⟨h⟩⟩

mutual
noncomputable def wpE (n : Nat) (ρ : Vars) : Ex → AH → (PV → AH → Prop) → Prop
  | .const v, H, Q => Q v H
  | .glob g, H, Q => mX theGlobs[g]? fun v => Q v H
  | .var i, H, Q => wpV ρ[i]? fun v => Q v H
  | .bin o a b, H, Q => wpE n ρ a H fun x H1 => wpE n ρ b H1 fun y H2 => wbin H2 o x y Q
  | .neg a, H, Q => wpE n ρ a H fun x H1 => wpI x fun i => Q (.int (-i)) H1
  | .inv a, H, Q => wpE n ρ a H fun x H1 => wpI x fun i => Q (.int (bitNot i)) H1
  | .not a, H, Q => wpE n ρ a H fun x H1 => wpTr x fun b => Q (.bool (!b)) H1
  | .and es, H, Q => wpAnd n ρ es H Q
  | .or es, H, Q => wpOr n ρ es H Q
  | .cmp o a b, H, Q => wpE n ρ a H fun x H1 => wpE n ρ b H1 fun y H2 => wpX (cmpop H2 o x y) fun r => Q (.bool r) H2
  | .cmp2 o1 o2 a b c, H, Q => wpE n ρ a H fun x H1 => wpE n ρ b H1 fun y H2 => wpX (cmpop H2 o1 x y) fun r =>
      if r = true then wpE n ρ c H2 fun z H3 => wpX (cmpop H3 o2 y z) fun r => Q (.bool r) H3 else Q (.bool false) H2
  | .ite c a b, H, Q => wpE n ρ c H fun x H1 => wpTr x fun t => if t = true then wpE n ρ a H1 Q else wpE n ρ b H1 Q
  | .attr a k, H, Q => wpE n ρ a H fun x H1 => wpX (vGetAttr H1 x k) fun v => Q v H1
  | .item a b, H, Q => wpE n ρ a H fun x H1 => wpE n ρ b H1 fun y H2 => wpX (vGetItem H2 x y) fun v => Q v H2
  | .sliceFrom a lo, H, Q => wpE n ρ a H fun x H1 => wpX (items H1 x) fun vs => (0 ≤ lo ∧ vs.length ≤ 1000) ∧ Q (.lst (vs.drop lo.toNat)) H1
  | .call f es, H, Q => wpEs n ρ es H fun vs H1 => wpO (callB (run n) inits f vs H1) Q
  | .append a b, H, Q => wpE n ρ a H fun x H1 => wpL H1 x fun _ _ => wpE n ρ b H1 fun y H2 => wpL H2 x fun l vs => vs.length ≤ 1000 ∧ Q .none (H2.set l (.list (vs ++ [y])))
  | .count a b, H, Q => wpE n ρ a H fun x H1 => wpX (items H1 x) fun _ => wpE n ρ b H1 fun y H2 => wpI y fun k => wpX (items H2 x) fun vs => wpX (ints? vs) fun is => is.length ≤ 1000 ∧ Q (.int (is.count k)) H2
  | .list es, H, Q => wpEs n ρ es H fun vs H1 => vs.length ≤ 1000 ∧ Q (.loc H1.length) (H1 ++ [.list vs])
  | .tuple es, H, Q => wpEs n ρ es H fun vs H1 => vs.length ≤ 1000 ∧ Q (.tup vs) H1
  | .comp nt caps elt iter conds, H, Q => wpE n ρ iter H fun x H1 => wpX (source H1 x) fun vs => vs.length ≤ 1000 ∧
      wpCo n H1.length x vs nt (List.replicate nt none ++ caps.map fun i => (ρ[i]?).join) elt conds vs (H1 ++ [.list []]) fun H2 => wpL H2 (.loc H1.length) fun _ xs => Q (.lst xs) (H2.set H1.length .dead)
noncomputable def wpEs (n : Nat) (ρ : Vars) : Exs → AH → (List PV → AH → Prop) → Prop
  | .nil, H, Q => Q [] H
  | .cons e es, H, Q => wpE n ρ e H fun x H1 => wpEs n ρ es H1 fun xs H2 => Q (x :: xs) H2
noncomputable def wpAnd (n : Nat) (ρ : Vars) : Exs → AH → (PV → AH → Prop) → Prop
  | .nil, _, _ => False
  | .cons e es, H, Q => wpE n ρ e H fun v H1 => match es with
    | .nil => Q v H1
    | .cons _ _ => wpTr v fun b => if b = true then wpAnd n ρ es H1 Q else Q v H1
noncomputable def wpOr (n : Nat) (ρ : Vars) : Exs → AH → (PV → AH → Prop) → Prop
  | .nil, _, _ => False
  | .cons e es, H, Q => wpE n ρ e H fun v H1 => match es with
    | .nil => Q v H1
    | .cons _ _ => wpTr v fun b => if b = true then Q v H1 else wpOr n ρ es H1 Q
end
noncomputable def wpT (n : Nat) (ρ : Vars) (e : Ex) (H : AH) (Q : Bool → AH → Prop) : Prop := wpE n ρ e H fun v H1 => wpTr v fun b => Q b H1
noncomputable def wpTests (n : Nat) (ρ : Vars) (e : Exs) (H : AH) (Q : Bool → AH → Prop) : Prop := match e with
  | .nil => Q true H
  | .cons e .nil => wpT n ρ e H Q
  | .cons _ (.cons _ _) => False
section
variable (n : Nat) (ρ : Vars) (Q : PV → AH → Prop)
noncomputable def kH (H : AH) (v : PV) : Prop := Q v H
noncomputable def kTB (Q : Bool → AH → Prop) (H : AH) (b : Bool) : Prop := Q b H
noncomputable def kT (Q : Bool → AH → Prop) (v : PV) (H : AH) : Prop := wpTr v (kTB Q H)
noncomputable def kOp (o : Bop) (x y : PV) (H : AH) : Prop := wbin H o x y Q
noncomputable def kBin (o : Bop) (b : Ex) (x : PV) (H : AH) : Prop := wpE n ρ b H (kOp Q o x)
noncomputable def kNeg (v : PV) (H : AH) : Prop := wpI v fun i => Q (.int (-i)) H
noncomputable def kInv (v : PV) (H : AH) : Prop := wpI v fun i => Q (.int (bitNot i)) H
noncomputable def kNot (b : Bool) (H : AH) : Prop := Q (.bool (!b)) H
noncomputable def kAndB (es : Exs) (v : PV) (H : AH) (b : Bool) : Prop := if b = true then wpAnd n ρ es H Q else Q v H
noncomputable def kAnd (es : Exs) (v : PV) (H : AH) : Prop := wpTr v (kAndB n ρ Q es v H)
noncomputable def kOrB (es : Exs) (v : PV) (H : AH) (b : Bool) : Prop := if b = true then Q v H else wpOr n ρ es H Q
noncomputable def kOr (es : Exs) (v : PV) (H : AH) : Prop := wpTr v (kOrB n ρ Q es v H)
noncomputable def kB (H : AH) (r : Bool) : Prop := Q (.bool r) H
noncomputable def kCmpR (o : Cop) (x y : PV) (H : AH) : Prop := wpX (cmpop H o x y) (kB Q H)
noncomputable def kCmp (o : Cop) (b : Ex) (x : PV) (H : AH) : Prop := wpE n ρ b H (kCmpR Q o x)
noncomputable def kC2c (o : Cop) (c : Ex) (y : PV) (H : AH) (r : Bool) : Prop := if r = true then wpE n ρ c H (kCmpR Q o y) else Q (.bool false) H
noncomputable def kC2b (o1 o2 : Cop) (c : Ex) (x y : PV) (H : AH) : Prop := wpX (cmpop H o1 x y) (kC2c n ρ Q o2 c y H)
noncomputable def kC2 (o1 o2 : Cop) (b c : Ex) (x : PV) (H : AH) : Prop := wpE n ρ b H (kC2b n ρ Q o1 o2 c x)
noncomputable def kIte (a b : Ex) (t : Bool) (H : AH) : Prop := if t = true then wpE n ρ a H Q else wpE n ρ b H Q
noncomputable def kAttr (k : Nat) (x : PV) (H : AH) : Prop := wpX (vGetAttr H x k) (kH Q H)
noncomputable def kItemR (x y : PV) (H : AH) : Prop := wpX (vGetItem H x y) (kH Q H)
noncomputable def kItem (b : Ex) (x : PV) (H : AH) : Prop := wpE n ρ b H (kItemR Q x)
noncomputable def kSlR (lo : Int) (H : AH) (vs : List PV) : Prop := (0 ≤ lo ∧ vs.length ≤ 1000) ∧ Q (.lst (vs.drop lo.toNat)) H
noncomputable def kSl (lo : Int) (x : PV) (H : AH) : Prop := wpX (items H x) (kSlR Q lo H)
noncomputable def kCall (f : Fn) (vs : List PV) (H : AH) : Prop := wpO (callB (run n) inits f vs H) Q
noncomputable def kArgs (Q : List PV → AH → Prop) (x : PV) (xs : List PV) (H : AH) : Prop := Q (x :: xs) H
noncomputable def kArg (Q : List PV → AH → Prop) (es : Exs) (x : PV) (H : AH) : Prop := wpEs n ρ es H (kArgs Q x)
noncomputable def kApp4 (y : PV) (H : AH) (l : Nat) (vs : List PV) : Prop := vs.length ≤ 1000 ∧ Q .none (H.set l (.list (vs ++ [y])))
noncomputable def kApp3 (x y : PV) (H : AH) : Prop := wpL H x (kApp4 Q y H)
noncomputable def kApp2 (b : Ex) (x : PV) (H : AH) (_ : Nat) (_ : List PV) : Prop := wpE n ρ b H (kApp3 Q x)
noncomputable def kApp (b : Ex) (x : PV) (H : AH) : Prop := wpL H x (kApp2 n ρ Q b x H)
noncomputable def kCo4 (k : Int) (H : AH) (is : List Int) : Prop := is.length ≤ 1000 ∧ Q (.int (is.count k)) H
noncomputable def kCo3 (k : Int) (H : AH) (vs : List PV) : Prop := wpX (ints? vs) (kCo4 Q k H)
noncomputable def kCo2 (x y : PV) (H : AH) : Prop := wpI y fun k => wpX (items H x) (kCo3 Q k H)
noncomputable def kCo1 (b : Ex) (x : PV) (H : AH) (_ : List PV) : Prop := wpE n ρ b H (kCo2 Q x)
noncomputable def kCo (b : Ex) (x : PV) (H : AH) : Prop := wpX (items H x) (kCo1 n ρ Q b x H)
noncomputable def kList (vs : List PV) (H : AH) : Prop := vs.length ≤ 1000 ∧ Q (.loc H.length) (H ++ [.list vs])
noncomputable def kTup (vs : List PV) (H : AH) : Prop := vs.length ≤ 1000 ∧ Q (.tup vs) H
end
section
variable {n : Nat} {ρ : Vars} {H : AH} {Q : PV → AH → Prop}
theorem z14 {v : PV} : kH Q H v = Q v H := rfl
theorem z1q {Q : Bool → AH → Prop} {b : Bool} : kTB Q H b = Q b H := rfl
theorem z1r {Q : Bool → AH → Prop} {v : PV} : kT Q v H = wpTr v (kTB Q H) := rfl
theorem z1d {o : Bop} {x y : PV} : kOp Q o x y H = wbin H o x y Q := rfl
theorem z0p {o : Bop} {b : Ex} {x : PV} : kBin n ρ Q o b x H = wpE n ρ b H (kOp Q o x) := rfl
theorem z1a {i : Int} : kNeg Q (.int i) H = Q (.int (-i)) H := rfl
theorem z15 {i : Int} : kInv Q (.int i) H = Q (.int (bitNot i)) H := rfl
theorem z1b {b : Bool} : kNot Q b H = Q (.bool (!b)) H := rfl
theorem z0a {es : Exs} {v : PV} : kAnd n ρ Q es v H = wpTr v (kAndB n ρ Q es v H) := rfl
theorem z09 {es : Exs} {v : PV} {b : Bool} : kAndB n ρ Q es v H b = if b = true then wpAnd n ρ es H Q else Q v H := rfl
theorem z1f {es : Exs} {v : PV} : kOr n ρ Q es v H = wpTr v (kOrB n ρ Q es v H) := rfl
theorem z1e {es : Exs} {v : PV} {b : Bool} : kOrB n ρ Q es v H b = if b = true then Q v H else wpOr n ρ es H Q := rfl
theorem z0o {r : Bool} : kB Q H r = Q (.bool r) H := rfl
theorem z0u {o : Cop} {x y : PV} : kCmpR Q o x y H = wpX (cmpop H o x y) (kB Q H) := rfl
theorem z0v {o : Cop} {b : Ex} {x : PV} : kCmp n ρ Q o b x H = wpE n ρ b H (kCmpR Q o x) := rfl
theorem z0s {o : Cop} {c : Ex} {y : PV} {r : Bool} : kC2c n ρ Q o c y H r = if r = true then wpE n ρ c H (kCmpR Q o y) else Q (.bool false) H := rfl
theorem z0r {o1 o2 : Cop} {c : Ex} {x y : PV} : kC2b n ρ Q o1 o2 c x y H = wpX (cmpop H o1 x y) (kC2c n ρ Q o2 c y H) := rfl
theorem z0q {o1 o2 : Cop} {b c : Ex} {x : PV} : kC2 n ρ Q o1 o2 b c x H = wpE n ρ b H (kC2b n ρ Q o1 o2 c x) := rfl
theorem z16 {a b : Ex} {t : Bool} : kIte n ρ Q a b t H = if t = true then wpE n ρ a H Q else wpE n ρ b H Q := rfl
theorem z0l {k : Nat} {x : PV} : kAttr Q k x H = wpX (vGetAttr H x k) (kH Q H) := rfl
theorem z17 {x y : PV} : kItemR Q x y H = wpX (vGetItem H x y) (kH Q H) := rfl
theorem z18 {b : Ex} {x : PV} : kItem n ρ Q b x H = wpE n ρ b H (kItemR Q x) := rfl
theorem z1o {lo : Int} {vs : List PV} : kSlR Q lo H vs = ((0 ≤ lo ∧ vs.length ≤ 1000) ∧ Q (.lst (vs.drop lo.toNat)) H) := rfl
theorem z1p {lo : Int} {x : PV} : kSl Q lo x H = wpX (items H x) (kSlR Q lo H) := rfl
theorem z0t {f : Fn} {vs : List PV} : kCall n Q f vs H = wpO (callB (run n) inits f vs H) Q := rfl
theorem z0g {Q : List PV → AH → Prop} {x : PV} {xs : List PV} : kArgs Q x xs H = Q (x :: xs) H := rfl
theorem z0f {Q : List PV → AH → Prop} {es : Exs} {x : PV} : kArg n ρ Q es x H = wpEs n ρ es H (kArgs Q x) := rfl
theorem z0d {y : PV} {l : Nat} {vs : List PV} : kApp4 Q y H l vs = (vs.length ≤ 1000 ∧ Q .none (H.set l (.list (vs ++ [y])))) := rfl
theorem z0c {x y : PV} : kApp3 Q x y H = wpL H x (kApp4 Q y H) := rfl
theorem z0b {b : Ex} {x : PV} {l : Nat} {vs : List PV} : kApp2 n ρ Q b x H l vs = wpE n ρ b H (kApp3 Q x) := rfl
theorem z0e {b : Ex} {x : PV} : kApp n ρ Q b x H = wpL H x (kApp2 n ρ Q b x H) := rfl
theorem z0z {k : Int} {is : List Int} : kCo4 Q k H is = (is.length ≤ 1000 ∧ Q (.int (is.count k)) H) := rfl
theorem z0y {k : Int} {vs : List PV} : kCo3 Q k H vs = wpX (ints? vs) (kCo4 Q k H) := rfl
theorem z0x {x : PV} {k : Int} : kCo2 Q x (.int k) H = wpX (items H x) (kCo3 Q k H) := rfl
theorem z0w {b : Ex} {x : PV} {vs : List PV} : kCo1 n ρ Q b x H vs = wpE n ρ b H (kCo2 Q x) := rfl
theorem z10 {b : Ex} {x : PV} : kCo n ρ Q b x H = wpX (items H x) (kCo1 n ρ Q b x H) := rfl
theorem z19 {vs : List PV} : kList Q vs H = (vs.length ≤ 1000 ∧ Q (.loc H.length) (H ++ [.list vs])) := rfl
theorem z1s {vs : List PV} : kTup Q vs H = (vs.length ≤ 1000 ∧ Q (.tup vs) H) := rfl
theorem z3y {e : Ex} {Q : Bool → AH → Prop} : wpT n ρ e H Q = wpE n ρ e H (kT Q) := rfl
theorem z2p {v : PV} : wpE n ρ (.const v) H Q = Q v H := rfl
theorem z2s {g : Nat} : wpE n ρ (.glob g) H Q = mX theGlobs[g]? (kH Q H) := rfl
theorem z37 {i : Nat} : wpE n ρ (.var i) H Q = wpV ρ[i]? (kH Q H) := rfl
theorem z2k {o : Bop} {a b : Ex} : wpE n ρ (.bin o a b) H Q = wpE n ρ a H (kBin n ρ Q o b) := rfl
theorem z30 {a : Ex} : wpE n ρ (.neg a) H Q = wpE n ρ a H (kNeg Q) := rfl
theorem z2t {a : Ex} : wpE n ρ (.inv a) H Q = wpE n ρ a H (kInv Q) := rfl
theorem z31 {a : Ex} : wpE n ρ (.not a) H Q = wpT n ρ a H (kNot Q) := rfl
theorem z2f {es : Exs} : wpE n ρ (.and es) H Q = wpAnd n ρ es H Q := rfl
theorem z32 {es : Exs} : wpE n ρ (.or es) H Q = wpOr n ρ es H Q := rfl
theorem z2e {e : Ex} : wpAnd n ρ (.cons e .nil) H Q = wpE n ρ e H Q := rfl
theorem z2d {e f : Ex} {es : Exs} : wpAnd n ρ (.cons e (.cons f es)) H Q = wpE n ρ e H (kAnd n ρ Q (.cons f es)) := rfl
theorem z3g {e : Ex} : wpOr n ρ (.cons e .nil) H Q = wpE n ρ e H Q := rfl
theorem z3f {e f : Ex} {es : Exs} : wpOr n ρ (.cons e (.cons f es)) H Q = wpE n ρ e H (kOr n ρ Q (.cons f es)) := rfl
theorem z2m {o : Cop} {a b : Ex} : wpE n ρ (.cmp o a b) H Q = wpE n ρ a H (kCmp n ρ Q o b) := rfl
theorem z2n {o1 o2 : Cop} {a b c : Ex} : wpE n ρ (.cmp2 o1 o2 a b c) H Q = wpE n ρ a H (kC2 n ρ Q o1 o2 b c) := rfl
theorem z2u {c a b : Ex} : wpE n ρ (.ite c a b) H Q = wpT n ρ c H (kIte n ρ Q a b) := rfl
theorem z2j {a : Ex} {k : Nat} : wpE n ρ (.attr a k) H Q = wpE n ρ a H (kAttr Q k) := rfl
theorem z2x {a b : Ex} : wpE n ρ (.item a b) H Q = wpE n ρ a H (kItem n ρ Q b) := rfl
theorem z35 {a : Ex} {lo : Int} : wpE n ρ (.sliceFrom a lo) H Q = wpE n ρ a H (kSl Q lo) := rfl
theorem z2l {f : Fn} {es : Exs} : wpE n ρ (.call f es) H Q = wpEs n ρ es H (kCall n Q f) := rfl
theorem z3a {Q : List PV → AH → Prop} : wpEs n ρ .nil H Q = Q [] H := rfl
theorem z38 {e : Ex} {es : Exs} {Q : List PV → AH → Prop} : wpEs n ρ (.cons e es) H Q = wpE n ρ e H (kArg n ρ Q es) := rfl
theorem wpL_loc {l : Nat} {vs : List PV} {Q : Nat → List PV → Prop} (h : H[l]? = some (.list vs)) : wpL H (.loc l) Q = Q l vs := by
  simp only [wpL, h]
theorem z2i {a b : Ex} : wpE n ρ (.append a b) H Q = wpE n ρ a H (kApp n ρ Q b) := rfl
theorem z2q {a b : Ex} : wpE n ρ (.count a b) H Q = wpE n ρ a H (kCo n ρ Q b) := rfl
theorem z2y {es : Exs} : wpE n ρ (.list es) H Q = wpEs n ρ es H (kList Q) := rfl
theorem z36 {es : Exs} : wpE n ρ (.tuple es) H Q = wpEs n ρ es H (kTup Q) := rfl
theorem z40 {Q : Bool → AH → Prop} : wpTests n ρ .nil H Q = Q true H := rfl
theorem z41 {e : Ex} {Q : Bool → AH → Prop} : wpTests n ρ (.cons e .nil) H Q = wpT n ρ e H Q := rfl
theorem z2o {nt : Nat} {caps : List Nat} {elt iter : Ex} {conds : Exs} : wpE n ρ (.comp nt caps elt iter conds) H Q = wpE n ρ iter H fun x H1 => wpX (source H1 x) fun vs => vs.length ≤ 1000 ∧
    wpCo n H1.length x vs nt (List.replicate nt none ++ caps.map fun i => (ρ[i]?).join) elt conds vs (H1 ++ [.list []]) fun H2 => wpL H2 (.loc H1.length) fun _ xs => Q (.lst xs) (H2.set H1.length .dead) := rfl
end

section
variable {n : Nat} {ρ : Vars}
mutual
theorem z2r : ∀ (e : Ex) (H : AH) (Q : PV → AH → Prop), wpE n ρ e H Q = mO (evE (run n) inits theGlobs ρ e H) Q
  | .const v, H, Q => rfl
  | .glob g, H, Q => bind_oo fun _ => rfl
  | .var i, H, Q => bind_V fun _ => rfl
  | .bin o a b, H, Q => (z2r a H _).trans (bind_ob fun _ H1 => (z2r b H1 _).trans (bind_ob fun _ _ => z23))
  | .neg a, H, Q => (z2r a H _).trans (bind_ob fun _ _ => bind_oi fun _ => rfl)
  | .inv a, H, Q => (z2r a H _).trans (bind_ob fun _ _ => bind_oi fun _ => rfl)
  | .not a, H, Q => (z2r a H _).trans (bind_tr fun _ _ => rfl)
  | .and es, H, Q => z2c es H Q
  | .or es, H, Q => z3e es H Q
  | .cmp o a b, H, Q => (z2r a H _).trans (bind_ob fun _ H1 => (z2r b H1 _).trans (bind_ob fun _ _ => bind_wX fun _ => rfl))
  | .cmp2 o1 o2 a b c, H, Q => (z2r a H _).trans (bind_ob fun _ H1 => (z2r b H1 _).trans (bind_ob fun _ H2 => bind_wX fun r => by cases r; (exact (if_neg bft).trans (rfl)); (exact (if_pos rfl).trans ((z2r c H2 _).trans (bind_ob fun _ _ => bind_wX fun _ => rfl)))))
  | .ite c a b, H, Q => (z2r c H _).trans (bind_tr fun t H1 => by cases t; (exact (if_neg bft).trans (z2r b H1 Q)); (exact (if_pos rfl).trans (z2r a H1 Q)))
  | .attr a k, H, Q => (z2r a H _).trans (bind_ob fun _ _ => bind_wX fun _ => rfl)
  | .item a b, H, Q => (z2r a H _).trans (bind_ob fun _ H1 => (z2r b H1 _).trans (bind_ob fun _ _ => bind_wX fun _ => rfl))
  | .sliceFrom a lo, H, Q => (z2r a H _).trans (bind_ob fun _ _ => bind_wX fun _ => bind_og' rfl)
  | .call f es, H, Q => (z39 es H _).trans (bind_ob fun _ _ => wpO_m)
  | .append a b, H, Q => (z2r a H _).trans (bind_ob fun x H1 => by
    cases x with
    | loc l => exact bind_oL fun _ => (z2r b H1 _).trans (bind_ob fun _ _ => bind_oL fun _ => bind_og' rfl)
    | _ => rfl)
  | .count a b, H, Q => (z2r a H _).trans (bind_ob fun _ H1 => bind_wX fun _ => (z2r b H1 _).trans (bind_ob fun _ _ => bind_oi fun _ => bind_wX fun _ => bind_wX fun _ => bind_og' rfl))
  | .list es, H, Q => (z39 es H _).trans (bind_ob fun _ _ => bind_og' rfl)
  | .tuple es, H, Q => (z39 es H _).trans (bind_ob fun _ _ => bind_og' rfl)
  | .comp nt caps elt iter conds, H, Q => (z2r iter H _).trans (bind_ob fun _ _ => bind_wX fun _ => bind_og' (wpCo_m.trans (bind_oo fun _ => bind_oL fun _ => rfl)))
theorem z39 : ∀ (e : Exs) (H : AH) (Q : List PV → AH → Prop), wpEs n ρ e H Q = mO (evEs (run n) inits theGlobs ρ e H) Q
  | .nil, H, Q => rfl
  | .cons e es, H, Q => (z2r e H _).trans (bind_ob fun _ H1 => (z39 es H1 _).trans (bind_ob fun _ _ => rfl))
theorem z2c : ∀ (e : Exs) (H : AH) (Q : PV → AH → Prop), wpAnd n ρ e H Q = mO (evAnd (run n) inits theGlobs ρ e H) Q
  | .nil, H, Q => rfl
  | .cons e .nil, H, Q => (z2r e H _).trans (bind_ob fun _ _ => rfl)
  | .cons e (.cons f es), H, Q => (z2r e H _).trans (bind_ob fun _ H1 => z44.trans (bind_oo fun t => by cases t; (exact (if_neg bft).trans (rfl)); (exact (if_pos rfl).trans (z2c (.cons f es) H1 Q))))
theorem z3e : ∀ (e : Exs) (H : AH) (Q : PV → AH → Prop), wpOr n ρ e H Q = mO (evOr (run n) inits theGlobs ρ e H) Q
  | .nil, H, Q => rfl
  | .cons e .nil, H, Q => (z2r e H _).trans (bind_ob fun _ _ => rfl)
  | .cons e (.cons f es), H, Q => (z2r e H _).trans (bind_ob fun _ H1 => z44.trans (bind_oo fun t => by cases t; (exact (if_neg bft).trans (z3e (.cons f es) H1 Q)); (exact (if_pos rfl).trans (rfl))))
end
theorem mO_end {α : Type} {r : Option (α × AH)} {Q : α → AH → Prop} : mX (ob r fun x H => some (x, H)) (fun p => Q p.1 p.2) = mO r Q := by
  cases r <;> rfl
theorem wpT_ev {e : Ex} {H : AH} {Q : Bool → AH → Prop} : wpT n ρ e H Q = mO (vTrue (evE (run n) inits theGlobs ρ e H)) Q :=
  (z2r e H _).trans ((bind_tr (k := fun b H => some (b, H)) fun _ _ => rfl).trans mO_end)
theorem z3z {es : Exs} {H : AH} {Q : Bool → AH → Prop} (h : wpTests n ρ es H Q) : mO (evTests (run n) inits theGlobs ρ es H) Q := by
  match es, h with
  | .nil, h => exact h
  | .cons e .nil, h =>
    rw [z41, wpT_ev] at h
    show mO (ob (vTrue (evE (run n) inits theGlobs ρ e H)) _) Q
    revert h
    rcases vTrue (evE (run n) inits theGlobs ρ e H) with _ | ⟨_ | _, H1⟩ <;> exact id
  | .cons _ (.cons _ _), h => exact h.elim
end

section
variable {n : Nat} {ρ : Vars} {H : AH}
theorem wpCo_nil {l : Nat} {src : PV} {vs0 : List PV} {nt : Nat} {ρ0 : Vars} {elt : Ex} {conds : Exs} {Q : AH → Prop} (h : stays src vs0 H = true) (q : Q H) : wpCo n l src vs0 nt ρ0 elt conds [] H Q := by
  refine ⟨?_⟩
  show mX (og (stays src vs0 H) (some H)) Q
  rw [h]
  exact q
theorem wpCo_cons {l : Nat} {src v : PV} {vs vs0 : List PV} {nt : Nat} {ρ0 ρ' : Vars} {elt : Ex} {conds : Exs} {Q : AH → Prop} (h : stays src vs0 H = true) (hb : bindT (List.range nt) v ρ0 = some ρ')
    (q : wpTests n ρ' conds H fun b H1 => if b = true then wpE n ρ' elt H1 (fun x H2 => wpL H2 (.loc l) fun _ acc => acc.length ≤ 1000 ∧ wpCo n l src vs0 nt ρ0 elt conds vs (H2.set l (.list (acc ++ [x]))) Q)
      else wpCo n l src vs0 nt ρ0 elt conds vs H1 Q) : wpCo n l src vs0 nt ρ0 elt conds (v :: vs) H Q := by
  refine ⟨?_⟩
  show mX (og (stays src vs0 H) (oo (bindT (List.range nt) v ρ0) fun ρ => ob (evTests (run n) inits theGlobs ρ conds H) _)) Q
  rw [h, hb]
  exact Eq.mp (bind_ob fun b H1 => by cases b; (exact (if_neg bft).trans (wpCo_m)); (exact (if_pos rfl).trans ((z2r elt H1 _).trans (bind_ob fun x H2 => bind_oL fun acc => bind_og' wpCo_m)))) (z3z q)
end

noncomputable def mR (o : Out) (Q : Flw → Vars → AH → Prop) : Prop := mX o fun p => Q p.1 p.2.1 p.2.2
theorem mR_inv {o : Out} {v : PV} (h : mR o fun f _ _ => f = .ret v) : ∃ ρ H, o = some (.ret v, ρ, H) := by
  rcases o with _ | ⟨f, ρ, H⟩
  · exact h.elim
  · exact ⟨ρ, H, (show f = .ret v from h) ▸ rfl⟩
theorem mR_mono {o : Out} {Q Q' : Flw → Vars → AH → Prop} (h : mR o Q) (k : ∀ f ρ H, Q f ρ H → Q' f ρ H) : mR o Q' := by
  rcases o with _ | ⟨f, ρ, H⟩
  · exact h.elim
  · exact k _ _ _ h
structure wpW (n : Nat) (c : Ex) (b : Sts) (k : Nat) (ρ : Vars) (H : AH) (Q : Flw → Vars → AH → Prop) : Prop where
  out : mR (whileGo (fun ρ H => vTrue (evE (run n) inits theGlobs ρ c H)) (fun ρ H => exSs (run n) inits theGlobs b ρ H) k ρ H) Q
theorem wpW_m {n : Nat} {c : Ex} {b : Sts} {k : Nat} {ρ : Vars} {H : AH} {Q : Flw → Vars → AH → Prop} : wpW n c b k ρ H Q =
  mR (whileGo (fun ρ H => vTrue (evE (run n) inits theGlobs ρ c H)) (fun ρ H => exSs (run n) inits theGlobs b ρ H) k ρ H) Q := propext ⟨fun h => h.out, fun h => ⟨h⟩⟩
structure wpF (n : Nat) (src : PV) (vs0 : List PV) (ts : List Nat) (b : Sts) (vs : List PV) (ρ : Vars) (H : AH) (Q : Flw → Vars → AH → Prop) : Prop where
  out : mR (forGo (stays src vs0) (bindT ts) (fun ρ H => exSs (run n) inits theGlobs b ρ H) vs ρ H) Q
theorem wpF_m {n : Nat} {src : PV} {vs0 : List PV} {ts : List Nat} {b : Sts} {vs : List PV} {ρ : Vars} {H : AH} {Q : Flw → Vars → AH → Prop} : wpF n src vs0 ts b vs ρ H Q =
  mR (forGo (stays src vs0) (bindT ts) (fun ρ H => exSs (run n) inits theGlobs b ρ H) vs ρ H) Q := propext ⟨fun h => h.out, fun h => ⟨h⟩⟩
noncomputable def onF (K : Vars → AH → Prop) (Q : Flw → Vars → AH → Prop) (f : Flw) (ρ : Vars) (H : AH) : Prop := match f with
  | .next => K ρ H
  | .ret v => Q (.ret v) ρ H
mutual
noncomputable def wpS (n : Nat) : St → Vars → AH → (Flw → Vars → AH → Prop) → Prop
  | .assign i e, ρ, H, Q => wpE n ρ e H fun v H1 => i < ρ.length ∧ Q .next (ρ.set i (some v)) H1
  | .assignTup is e, ρ, H, Q => wpE n ρ e H fun v H1 => wpX (unpk H1 v) fun vs => vs.length ≤ 1000 ∧ wpX (setAll is vs ρ) fun ρ' => Q .next ρ' H1
  | .setAttr o k e, ρ, H, Q => wpE n ρ e H fun v H1 => wpE n ρ o H1 fun x H2 => wpX (vSetAttr H2 x k v) fun H3 => Q .next ρ H3
  | .setItem o i e, ρ, H, Q => wpE n ρ e H fun v H1 => wpE n ρ o H1 fun x H2 => wpE n ρ i H2 fun y H3 => wpX (vSetItem H3 x y v) fun H4 => Q .next ρ H4
  | .aug i o e, ρ, H, Q => wpV ρ[i]? fun u => wpI u fun a => wpE n ρ e H fun v H1 => wpI v fun b => wbi H1 o a b fun w H2 => Q .next (ρ.set i (some w)) H2
  | .augItem a i o e, ρ, H, Q => wpE n ρ a H fun x H1 => wpE n ρ i H1 fun y H2 => wpX (vGetItem H2 x y) fun u => wpI u fun u => wpE n ρ e H2 fun v H3 => wpI v fun v => wbi H3 o u v fun z H4 => wpX (vSetItem H4 x y z) fun H5 => Q .next ρ H5
  | .expr e, ρ, H, Q => wpE n ρ e H fun v H1 => wpN v (Q .next ρ H1)
  | .ite c t f, ρ, H, Q => wpT n ρ c H fun b H1 => if b = true then wpSs n t ρ H1 Q else wpSs n f ρ H1 Q
  | .while c b, ρ, H, Q => wpW n c b 200 ρ H Q
  | .for ts it b, ρ, H, Q => wpE n ρ it H fun x H1 => wpX (source H1 x) fun vs => vs.length ≤ 1000 ∧ wpF n x vs ts b vs ρ H1 Q
  | .ret e, ρ, H, Q => wpE n ρ e H fun v H1 => Q (.ret v) ρ H1
  | .stop, _, _, _ => False
noncomputable def wpSs (n : Nat) : Sts → Vars → AH → (Flw → Vars → AH → Prop) → Prop
  | .nil, ρ, H, Q => Q .next ρ H
  | .cons s ss, ρ, H, Q => wpS n s ρ H (onF (fun ρ' H' => wpSs n ss ρ' H' Q) Q)
end
structure seqK (n : Nat) (ss : Sts) (Q : Flw → Vars → AH → Prop) (f : Flw) (ρ : Vars) (H : AH) : Prop where
  out : onF (fun ρ H => wpSs n ss ρ H Q) Q f ρ H
theorem seqK_m {n : Nat} {ss : Sts} {Q : Flw → Vars → AH → Prop} : seqK n ss Q = onF (fun ρ H => wpSs n ss ρ H Q) Q := by
  funext f ρ H; exact propext ⟨fun h => h.out, fun h => ⟨h⟩⟩
noncomputable def loopW (n : Nat) (c : Ex) (b : Sts) (k : Nat) (Q : Flw → Vars → AH → Prop) : Flw → Vars → AH → Prop := onF (fun ρ H => wpW n c b k ρ H Q) Q
noncomputable def loopF (n : Nat) (src : PV) (vs0 : List PV) (ts : List Nat) (b : Sts) (vs : List PV) (Q : Flw → Vars → AH → Prop) : Flw → Vars → AH → Prop := onF (fun ρ H => wpF n src vs0 ts b vs ρ H Q) Q
section
variable (n : Nat) (ρ : Vars) (Q : Flw → Vars → AH → Prop)
noncomputable def kAsg (i : Nat) (v : PV) (H : AH) : Prop := i < ρ.length ∧ Q .next (ρ.set i (some v)) H
noncomputable def kAst3 (H : AH) (ρ' : Vars) : Prop := Q .next ρ' H
noncomputable def kAst2 (is : List Nat) (H : AH) (vs : List PV) : Prop := vs.length ≤ 1000 ∧ wpX (setAll is vs ρ) (kAst3 Q H)
noncomputable def kAst (is : List Nat) (v : PV) (H : AH) : Prop := wpX (unpk H v) (kAst2 ρ Q is H)
noncomputable def kNx (H : AH) : Prop := Q .next ρ H
noncomputable def kSa2 (k : Nat) (v x : PV) (H : AH) : Prop := wpX (vSetAttr H x k v) (kNx ρ Q)
noncomputable def kSa (o : Ex) (k : Nat) (v : PV) (H : AH) : Prop := wpE n ρ o H (kSa2 ρ Q k v)
noncomputable def kSi3 (v x y : PV) (H : AH) : Prop := wpX (vSetItem H x y v) (kNx ρ Q)
noncomputable def kSi2 (i : Ex) (v x : PV) (H : AH) : Prop := wpE n ρ i H (kSi3 ρ Q v x)
noncomputable def kSi (o i : Ex) (v : PV) (H : AH) : Prop := wpE n ρ o H (kSi2 n ρ Q i v)
noncomputable def kPut (i : Nat) (w : PV) (H : AH) : Prop := Q .next (ρ.set i (some w)) H
noncomputable def kAu2 (i : Nat) (o : Bop) (a : Int) (v : PV) (H : AH) : Prop := wpI v fun b => wbi H o a b (kPut ρ Q i)
noncomputable def kAu (i : Nat) (o : Bop) (e : Ex) (H : AH) (u : PV) : Prop := wpI u fun a => wpE n ρ e H (kAu2 ρ Q i o a)
noncomputable def kAi5 (x y z : PV) (H : AH) : Prop := wpX (vSetItem H x y z) (kNx ρ Q)
noncomputable def kAi4 (o : Bop) (x y : PV) (u : Int) (v : PV) (H : AH) : Prop := wpI v fun v => wbi H o u v (kAi5 ρ Q x y)
noncomputable def kAi3 (o : Bop) (e : Ex) (x y : PV) (H : AH) (u : PV) : Prop := wpI u fun u => wpE n ρ e H (kAi4 ρ Q o x y u)
noncomputable def kAi2 (o : Bop) (e : Ex) (x y : PV) (H : AH) : Prop := wpX (vGetItem H x y) (kAi3 n ρ Q o e x y H)
noncomputable def kAi (o : Bop) (i e : Ex) (x : PV) (H : AH) : Prop := wpE n ρ i H (kAi2 n ρ Q o e x)
noncomputable def kEx (v : PV) (H : AH) : Prop := wpN v (Q .next ρ H)
noncomputable def kSif (t f : Sts) (b : Bool) (H : AH) : Prop := if b = true then wpSs n t ρ H Q else wpSs n f ρ H Q
noncomputable def kFo2 (ts : List Nat) (b : Sts) (x : PV) (H : AH) (vs : List PV) : Prop := vs.length ≤ 1000 ∧ wpF n x vs ts b vs ρ H Q
noncomputable def kFo (ts : List Nat) (b : Sts) (x : PV) (H : AH) : Prop := wpX (source H x) (kFo2 n ρ Q ts b x H)
noncomputable def kRet (v : PV) (H : AH) : Prop := Q (.ret v) ρ H
end
section
variable {n : Nat} {ρ : Vars} {H : AH} {Q : Flw → Vars → AH → Prop}
theorem z0h {i : Nat} {v : PV} : kAsg ρ Q i v H = (i < ρ.length ∧ Q .next (ρ.set i (some v)) H) := rfl
theorem z0j {ρ' : Vars} : kAst3 Q H ρ' = Q .next ρ' H := rfl
theorem z0i {is : List Nat} {vs : List PV} : kAst2 ρ Q is H vs = (vs.length ≤ 1000 ∧ wpX (setAll is vs ρ) (kAst3 Q H)) := rfl
theorem z0k {is : List Nat} {v : PV} : kAst ρ Q is v H = wpX (unpk H v) (kAst2 ρ Q is H) := rfl
theorem z1c : kNx ρ Q H = Q .next ρ H := rfl
theorem z1i {k : Nat} {v x : PV} : kSa2 ρ Q k v x H = wpX (vSetAttr H x k v) (kNx ρ Q) := rfl
theorem z1j {o : Ex} {k : Nat} {v : PV} : kSa n ρ Q o k v H = wpE n ρ o H (kSa2 ρ Q k v) := rfl
theorem z1l {v x y : PV} : kSi3 ρ Q v x y H = wpX (vSetItem H x y v) (kNx ρ Q) := rfl
theorem z1k {i : Ex} {v x : PV} : kSi2 n ρ Q i v x H = wpE n ρ i H (kSi3 ρ Q v x) := rfl
theorem z1m {o i : Ex} {v : PV} : kSi n ρ Q o i v H = wpE n ρ o H (kSi2 n ρ Q i v) := rfl
theorem z1g {i : Nat} {w : PV} : kPut ρ Q i w H = Q .next (ρ.set i (some w)) H := rfl
theorem z0m {i : Nat} {o : Bop} {a b : Int} : kAu2 ρ Q i o a (.int b) H = wbi H o a b (kPut ρ Q i) := rfl
theorem z0n {i : Nat} {o : Bop} {e : Ex} {a : Int} : kAu n ρ Q i o e H (.int a) = wpE n ρ e H (kAu2 ρ Q i o a) := rfl
theorem z07 {x y z : PV} : kAi5 ρ Q x y z H = wpX (vSetItem H x y z) (kNx ρ Q) := rfl
theorem z06 {o : Bop} {x y : PV} {u v : Int} : kAi4 ρ Q o x y u (.int v) H = wbi H o u v (kAi5 ρ Q x y) := rfl
theorem z05 {o : Bop} {e : Ex} {x y : PV} {u : Int} : kAi3 n ρ Q o e x y H (.int u) = wpE n ρ e H (kAi4 ρ Q o x y u) := rfl
theorem z04 {o : Bop} {e : Ex} {x y : PV} : kAi2 n ρ Q o e x y H = wpX (vGetItem H x y) (kAi3 n ρ Q o e x y H) := rfl
theorem z08 {o : Bop} {i e : Ex} {x : PV} : kAi n ρ Q o i e x H = wpE n ρ i H (kAi2 n ρ Q o e x) := rfl
theorem z11 : kEx ρ Q .none H = Q .next ρ H := rfl
theorem z1n {t f : Sts} {b : Bool} : kSif n ρ Q t f b H = if b = true then wpSs n t ρ H Q else wpSs n f ρ H Q := rfl
theorem z12 {ts : List Nat} {b : Sts} {x : PV} {vs : List PV} : kFo2 n ρ Q ts b x H vs = (vs.length ≤ 1000 ∧ wpF n x vs ts b vs ρ H Q) := rfl
theorem z13 {ts : List Nat} {b : Sts} {x : PV} : kFo n ρ Q ts b x H = wpX (source H x) (kFo2 n ρ Q ts b x H) := rfl
theorem z1h {v : PV} : kRet ρ Q v H = Q (.ret v) ρ H := rfl
theorem z2z {e : Ex} {Q Q' : PV → AH → Prop} (h : wpE n ρ e H Q) (k : ∀ v H', Q v H' → Q' v H') : wpE n ρ e H Q' := by
  rw [z2r] at h ⊢; exact mO_mono h k
theorem z1x {ss : Sts} : seqK n ss Q .next ρ H = wpSs n ss ρ H Q := by rw [seqK_m]; rfl
theorem z1y {ss : Sts} {v : PV} : seqK n ss Q (.ret v) ρ H = Q (.ret v) ρ H := by rw [seqK_m]; rfl
theorem z3x : wpSs n .nil ρ H Q = Q .next ρ H := rfl
theorem z3u {s : St} {ss : Sts} : wpSs n (.cons s ss) ρ H Q = wpS n s ρ H (seqK n ss Q) := by rw [seqK_m]; rfl
theorem z3h {i : Nat} {e : Ex} : wpS n (.assign i e) ρ H Q = wpE n ρ e H (kAsg ρ Q i) := rfl
theorem z3i {is : List Nat} {e : Ex} : wpS n (.assignTup is e) ρ H Q = wpE n ρ e H (kAst ρ Q is) := rfl
theorem z3r {o e : Ex} {k : Nat} : wpS n (.setAttr o k e) ρ H Q = wpE n ρ e H (kSa n ρ Q o k) := rfl
theorem z3s {o i e : Ex} : wpS n (.setItem o i e) ρ H Q = wpE n ρ e H (kSi n ρ Q o i) := rfl
theorem z3j {i : Nat} {o : Bop} {e : Ex} : wpS n (.aug i o e) ρ H Q = wpV ρ[i]? (kAu n ρ Q i o e H) := rfl
theorem z3k {a i e : Ex} {o : Bop} : wpS n (.augItem a i o e) ρ H Q = wpE n ρ a H (kAi n ρ Q o i e) := rfl
theorem z3m {e : Ex} : wpS n (.expr e) ρ H Q = wpE n ρ e H (kEx ρ Q) := rfl
theorem z3o {c : Ex} {t f : Sts} : wpS n (.ite c t f) ρ H Q = wpT n ρ c H (kSif n ρ Q t f) := rfl
theorem z3t {c : Ex} {b : Sts} : wpS n (.while c b) ρ H Q = wpW n c b 200 ρ H Q := rfl
theorem z3n {ts : List Nat} {it : Ex} {b : Sts} : wpS n (.for ts it b) ρ H Q = wpE n ρ it H (kFo n ρ Q ts b) := rfl
theorem z3q {e : Ex} : wpS n (.ret e) ρ H Q = wpE n ρ e H (kRet ρ Q) := rfl
theorem z1v {c : Ex} {b : Sts} {k : Nat} : loopW n c b k Q .next ρ H = wpW n c b k ρ H Q := rfl
theorem z1u {src : PV} {vs vs0 : List PV} {ts : List Nat} {b : Sts} : loopF n src vs0 ts b vs Q .next ρ H = wpF n src vs0 ts b vs ρ H Q := rfl
theorem bind_sq {r : Out} {k : Vars → AH → Out} {K : Vars → AH → Prop} (h : ∀ ρ H, K ρ H = mR (k ρ H) Q) : mR r (onF K Q) = mR (oS r k) Q := by
  rcases r with _ | ⟨_ | v, ρ, H⟩
  · rfl
  · exact h ρ H
  · rfl
mutual
theorem z3l : ∀ (s : St) (ρ : Vars) (H : AH) (Q : Flw → Vars → AH → Prop), wpS n s ρ H Q = mR (exS (run n) inits theGlobs s ρ H) Q
  | .assign i e, ρ, H, Q => (z2r e H _).trans (bind_ob fun _ _ => bind_og' rfl)
  | .assignTup is e, ρ, H, Q => (z2r e H _).trans (bind_ob fun _ _ => bind_wX fun _ => bind_og' (bind_wX fun _ => rfl))
  | .setAttr o k e, ρ, H, Q => (z2r e H _).trans (bind_ob fun _ H1 => (z2r o H1 _).trans (bind_ob fun _ _ => bind_wX fun _ => rfl))
  | .setItem o i e, ρ, H, Q => (z2r e H _).trans (bind_ob fun _ H1 => (z2r o H1 _).trans (bind_ob fun _ H2 => (z2r i H2 _).trans (bind_ob fun _ _ => bind_wX fun _ => rfl)))
  | .aug i o e, ρ, H, Q => bind_V fun _ => bind_oi fun _ => (z2r e H _).trans (bind_ob fun _ _ => bind_oi fun _ => wbi_eq.trans (bind_ob fun _ _ => rfl))
  | .augItem a i o e, ρ, H, Q => (z2r a H _).trans (bind_ob fun _ H1 => (z2r i H1 _).trans (bind_ob fun _ H2 => bind_wX fun _ => bind_oi fun _ => (z2r e H2 _).trans (bind_ob fun _ _ => bind_oi fun _ => wbi_eq.trans (bind_ob fun _ _ => bind_wX fun _ => rfl))))
  | .expr e, ρ, H, Q => (z2r e H _).trans (bind_ob fun _ _ => bind_on rfl)
  | .ite c t f, ρ, H, Q => (z2r c H _).trans (bind_tr fun b H1 => by cases b; (exact (if_neg bft).trans (z3v f ρ H1 Q)); (exact (if_pos rfl).trans (z3v t ρ H1 Q)))
  | .while c b, ρ, H, Q => wpW_m
  | .for ts it b, ρ, H, Q => (z2r it H _).trans (bind_ob fun _ _ => bind_wX fun _ => bind_og' wpF_m)
  | .ret e, ρ, H, Q => (z2r e H _).trans (bind_ob fun _ _ => rfl)
  | .stop, ρ, H, Q => rfl
theorem z3v : ∀ (ss : Sts) (ρ : Vars) (H : AH) (Q : Flw → Vars → AH → Prop), wpSs n ss ρ H Q = mR (exSs (run n) inits theGlobs ss ρ H) Q
  | .nil, ρ, H, Q => rfl
  | .cons s ss, ρ, H, Q => (z3l s ρ H _).trans (bind_sq fun ρ' H' => z3v ss ρ' H' Q)
end
theorem z3p {s : St} {Q' : Flw → Vars → AH → Prop} (h : wpS n s ρ H Q) (k : ∀ f ρ' H', Q f ρ' H' → Q' f ρ' H') : wpS n s ρ H Q' := by
  rw [z3l] at h ⊢; exact mR_mono h k
theorem z3w {s : Sts} {Q' : Flw → Vars → AH → Prop} (h : wpSs n s ρ H Q) (k : ∀ f ρ' H', Q f ρ' H' → Q' f ρ' H') : wpSs n s ρ H Q' := by
  rw [z3v] at h ⊢; exact mR_mono h k
noncomputable def kWh (n : Nat) (ρ : Vars) (Q : Flw → Vars → AH → Prop) (c : Ex) (b : Sts) (k : Nat) (t : Bool) (H : AH) : Prop := if t = true then wpSs n b ρ H (loopW n c b k Q) else Q .next ρ H
theorem z1t {c : Ex} {b : Sts} {k : Nat} {t : Bool} : kWh n ρ Q c b k t H = if t = true then wpSs n b ρ H (loopW n c b k Q) else Q .next ρ H := rfl
theorem wpW_succ {c : Ex} {b : Sts} {k : Nat} (h : wpT n ρ c H (kWh n ρ Q c b k)) : wpW n c b (k + 1) ρ H Q := by
  refine ⟨?_⟩
  rw [wpT_ev] at h
  show mX (ob (vTrue (evE (run n) inits theGlobs ρ c H)) fun t H1 => match t with
    | false => some (.next, ρ, H1)
    | true => oS (exSs (run n) inits theGlobs b ρ H1) fun ρ' H2 => whileGo (fun ρ H => vTrue (evE (run n) inits theGlobs ρ c H)) (fun ρ H => exSs (run n) inits theGlobs b ρ H) k ρ' H2) fun p => Q p.1 p.2.1 p.2.2
  exact Eq.mp (bind_ob fun t H1 => by cases t; (exact (if_neg bft).trans (rfl)); (exact (if_pos rfl).trans ((z3v b ρ H1 _).trans (bind_sq fun ρ' H2 => wpW_m)))) h
theorem wpF_nil {src : PV} {vs0 : List PV} {ts : List Nat} {b : Sts} (hq : stays src vs0 H = true ∧ Q .next ρ H) : wpF n src vs0 ts b [] ρ H Q := by
  obtain ⟨h, q⟩ := hq
  refine ⟨?_⟩
  show mR (og (stays src vs0 H) (some (.next, ρ, H))) Q
  rw [h]
  exact q
theorem wpF_cons {src v : PV} {vs vs0 : List PV} {ts : List Nat} {b : Sts} (hq : stays src vs0 H = true ∧ wpX (bindT ts v ρ) fun ρ1 => wpSs n b ρ1 H (loopF n src vs0 ts b vs Q)) : wpF n src vs0 ts b (v :: vs) ρ H Q := by
  obtain ⟨h, q⟩ := hq
  refine ⟨?_⟩
  show mR (og (stays src vs0 H) (oo (bindT ts v ρ) fun ρ1 => oS (exSs (run n) inits theGlobs b ρ1 H) _)) Q
  rw [h]
  exact Eq.mp (bind_wX fun ρ1 => (z3v b ρ1 H _).trans (bind_sq fun ρ' H2 => wpF_m)) q

noncomputable def callK (m : Nat) (Q : PV → AH → Prop) (f : Flw) (_ : Vars) (H : AH) : Prop := match f with
  | .ret v => Q (freeze m v H).1 (freeze m v H).2
  | .next => Q .none H
theorem wp_run {f : Nat} {args : List PV} {Q : PV → AH → Prop} {d : FnDef} (hd : theFns[f]? = some d) (hl : args.length = d.np) (h : wpSs n d.body (args.map some ++ List.replicate (d.nv - d.np) none) H (callK H.length Q)) :
    wpO (run (n + 1) f args H) Q := by
  refine ⟨?_⟩
  show mO (oo theFns[f]? fun fd => runFn (run n) inits theGlobs fd args H) Q
  rw [hd]
  show mO (og (decide (args.length = d.np)) _) Q
  rw [decide_eq_true hl]
  rw [z3v] at h
  show mO (rt H.length (exSs (run n) inits theGlobs d.body (args.map some ++ List.replicate (d.nv - d.np) none) H)) Q
  revert h
  rcases exSs (run n) inits theGlobs d.body (args.map some ++ List.replicate (d.nv - d.np) none) H with _ | ⟨_ | v, ρ', H'⟩
  · exact id
  · exact id
  · exact id
theorem z02 {m : Nat} {i : Int} {Q : PV → AH → Prop} : callK m Q (.ret (.int i)) ρ H = Q (.int i) H := rfl
theorem z01 {m : Nat} {i : Bool} {Q : PV → AH → Prop} : callK m Q (.ret (.bool i)) ρ H = Q (.bool i) H := rfl
theorem z03 {m : Nat} {Q : PV → AH → Prop} : callK m Q .next ρ H = Q .none H := rfl
theorem z00 {f : Nat} {vs : List PV} : callB (run n) inits (.user f) vs H = run n f vs H := rfl
end
end Mine
end

section
set_option maxRecDepth 100000
namespace Mine
open PySem.Builtin

section
variable {n : Nat} {ρ : Vars} {H : AH} {Q : PV → AH → Prop}
theorem z1z {a b : Int} : wbi H .add a b Q = Q (.int (a + b)) H := rfl
theorem z22 {a b : Int} : wbi H .sub a b Q = Q (.int (a - b)) H := rfl
theorem z20 {a b : Int} : wbi H .band a b Q = Q (.int (bitAnd a b)) H := rfl
theorem z21 {a b : Int} : wbi H .bor a b Q = Q (.int (bitOr a b)) H := rfl
theorem wb_mul {a b : Int} : wbi H .mul a b Q = ((small a || small b) = true ∧ Q (.int (a * b)) H) := rfl
theorem wb_fdiv {a b : Int} : wbi H .fdiv a b Q = ((!decide (b = 0) && decide (b.natAbs < 1073741824)) = true ∧ Q (.int (a.fdiv b)) H) := rfl
theorem wb_mod {a b : Int} : wbi H .mod a b Q = ((!decide (b = 0) && decide (b.natAbs < 1073741824)) = true ∧ Q (.int (a.fmod b)) H) := rfl
theorem wb_shl {a b : Int} : wbi H .shl a b Q = ((decide (0 ≤ b) && decide (b ≤ 1000000) && small a) = true ∧ Q (.int (a * 2 ^ b.toNat)) H) := rfl
theorem wb_shr {a b : Int} : wbi H .shr a b Q = (decide (0 ≤ b) = true ∧ Q (.int (a.fdiv (2 ^ b.toNat))) H) := rfl
theorem smallN {a : Nat} (h : a < 2 ^ 64) : small (a : Int) = true := by
  unfold small big; rw [Bool.and_eq_true]; exact ⟨decide_eq_true (by lia), decide_eq_true (by lia)⟩
theorem wb_shlN {a b : Nat} (hb : b ≤ 1000000) (ha : a < 2 ^ 64) : wbi H .shl a b Q = Q (.int ((a <<< b : Nat) : Int)) H := by
  rw [wb_shl, smallN ha, Int.toNat_natCast, shlN]
  have h1 : decide ((0 : Int) ≤ (b : Int)) = true := by simp
  have h2 : decide ((b : Int) ≤ 1000000) = true := by simp; lia
  rw [h1, h2]; simp
theorem wb_shrN {a b : Nat} : wbi H .shr a b Q = Q (.int ((a >>> b : Nat) : Int)) H := by
  rw [wb_shr, Int.toNat_natCast, shrN]; simp
theorem wb_shr1 {a : Nat} : wbi H .shr a 1 Q = Q (.int ((a >>> 1 : Nat) : Int)) H := wb_shrN (b := 1)
theorem wb_shr4 {a : Nat} : wbi H .shr a 4 Q = Q (.int ((a >>> 4 : Nat) : Int)) H := wb_shrN (b := 4)
theorem wb_shl1 {a : Nat} (ha : a < 2 ^ 64) : wbi H .shl a 1 Q = Q (.int ((a <<< 1 : Nat) : Int)) H := wb_shlN (b := 1) (by decide) ha
theorem wb_one_shl {b : Nat} (hb : b ≤ 1000000) : wbi H .shl 1 b Q = Q (.int ((1 <<< b : Nat) : Int)) H := wb_shlN (a := 1) hb (by decide)
theorem z2a {a b : Int} {Q : Bool → Prop} : wpX (cmpop H .lt (.int a) (.int b)) Q = Q (decide (a < b)) := wpX_m
theorem z28 {a b : Int} {Q : Bool → Prop} : wpX (cmpop H .gt (.int a) (.int b)) Q = Q (decide (b < a)) := wpX_m
theorem z29 {a b : Int} {Q : Bool → Prop} : wpX (cmpop H .le (.int a) (.int b)) Q = Q (decide (a ≤ b)) := wpX_m
theorem z27 {a b : Int} {Q : Bool → Prop} : wpX (cmpop H .ge (.int a) (.int b)) Q = Q (decide (b ≤ a)) := wpX_m
theorem z26 {a b : Int} {Q : Bool → Prop} : wpX (cmpop H .eq (.int a) (.int b)) Q = Q (decide (a = b)) := wpX_m
theorem z2b {a b : Bool} {Q : Bool → Prop} : wpX (cmpop H .ne (.bool a) (.bool b)) Q = Q (a != b) := wpX_m
end
theorem pre_get {H H' : AH} (h : H <+: H') {l : Nat} {o : AObj} (e : H[l]? = some o) : H'[l]? = some o := by
  obtain ⟨E, rfl⟩ := h
  have := (List.getElem?_eq_some_iff.mp e).1
  rw [List.getElem?_append_left this]; exact e

noncomputable def colMask (F R f : Nat) : Nat := ((List.range R).foldl (fun c r => c ||| (1 <<< (r * F))) 0) <<< f
structure Geo (H : AH) (l F R : Nat) : Prop where
  a10 : vGetAttr H (.loc l) 10 = some (.int F)
  a11 : vGetAttr H (.loc l) 11 = some (.int R)
  a12 : vGetAttr H (.loc l) 12 = some (.int (F * R : Nat))
  a13 : vGetAttr H (.loc l) 13 = some (.int ((2 ^ (F * R) - 1 : Nat) : Int))
  a16 : ∃ fm : Nat, vGetAttr H (.loc l) 16 = some (.loc fm) ∧ vGetItem H (.loc fm) (.int 0) = some (.int (colMask F R 0 : Nat)) ∧ vGetItem H (.loc fm) (.int ((F : Int) - 1)) = some (.int (colMask F R (F - 1) : Nat))
theorem attr_pre {H H' : AH} (h : H <+: H') {v w : PV} {k : Nat} (e : vGetAttr H v k = some w) : vGetAttr H' v k = some w := by
  unfold vGetAttr at e ⊢
  split at e
  · rename_i l
    cases q : H[l]? with
    | none => rw [q] at e; cases e
    | some o => rw [q] at e; simp only [pre_get h q]; exact e
  · cases e
theorem items_pre {H H' : AH} (h : H <+: H') {v : PV} {vs : List PV} (e : items H v = some vs) : items H' v = some vs := by
  unfold items at e ⊢
  split at e
  · exact e
  · rename_i l
    cases q : H[l]? with
    | none => rw [q] at e; cases e
    | some o => rw [q] at e; simp only [pre_get h q]; exact e
  · cases e
theorem unpk_pre {H H' : AH} (h : H <+: H') {v : PV} {vs : List PV} (e : unpk H v = some vs) : unpk H' v = some vs := by
  unfold unpk at e ⊢
  split at e
  · exact e
  · exact items_pre h e
theorem item_pre {H H' : AH} (h : H <+: H') {v i w : PV} (e : vGetItem H v i = some w) : vGetItem H' v i = some w := by
  unfold vGetItem at e ⊢
  split at e
  · cases q : unpk H v with
    | none => rw [q] at e; cases e
    | some o => rw [q] at e; simp only [unpk_pre h q]; exact e
  · cases e
theorem Geo.pre {H H' : AH} {l F R : Nat} (g : Geo H l F R) (h : H <+: H') : Geo H' l F R := by
  obtain ⟨a, b, c, d, fm, e1, e2, e3⟩ := g
  exact ⟨attr_pre h a, attr_pre h b, attr_pre h c, attr_pre h d, fm, attr_pre h e1, item_pre h e2, item_pre h e3⟩

noncomputable def up (F R : Nat) (b : Nat) (sd : Int) : Nat := if sd = 0 then (b <<< F) &&& (2 ^ (F * R) - 1) else b >>> F
noncomputable def nb (F R : Nat) (b : Nat) : Nat := ((andn b (colMask F R (F - 1)) <<< 1) ||| (andn b (colMask F R 0) >>> 1)) &&& (2 ^ (F * R) - 1)
noncomputable def fillStep (F R : Nat) (sd : Int) (step b : Nat) : Nat := if sd = 0 then b ||| ((b <<< step) &&& (2 ^ (F * R) - 1)) else b ||| (b >>> step)
noncomputable def fillGo (F R : Nat) (sd : Int) : Nat → Nat → Nat → Nat
  | 0, _, b => b
  | k + 1, step, b => if step < F * R then fillGo F R sd k (step + step) (fillStep F R sd step b) else b
noncomputable def fill (F R : Nat) (b : Nat) (sd : Int) : Nat := fillGo F R sd 7 F b
noncomputable def front (F R : Nat) (b : Nat) (sd : Int) : Nat := up F R (fill F R b sd) sd

theorem land_full {a N : Nat} : a &&& (2 ^ N - 1) < 2 ^ N := by
  rw [Nat.and_two_pow_sub_one_eq_mod]; exact Nat.mod_lt _ (Nat.two_pow_pos N)
theorem andn_le (a b : Nat) : andn a b ≤ a := by have := andn_add a b; lia
theorem up_lt {F R b : Nat} {sd : Int} (h : b < 2 ^ (F * R)) : up F R b sd < 2 ^ (F * R) := by
  unfold up; split
  · exact land_full
  · rw [Nat.shiftRight_eq_div_pow]; exact Nat.lt_of_le_of_lt (Nat.div_le_self ..) h
theorem nb_lt {F R b : Nat} : nb F R b < 2 ^ (F * R) := land_full
theorem fillStep_lt {F R step b : Nat} {sd : Int} (h : b < 2 ^ (F * R)) : fillStep F R sd step b < 2 ^ (F * R) := by
  unfold fillStep; split
  · exact Nat.or_lt_two_pow h land_full
  · refine Nat.or_lt_two_pow h ?_
    rw [Nat.shiftRight_eq_div_pow]; exact Nat.lt_of_le_of_lt (Nat.div_le_self ..) h
theorem fillGo_lt {F R : Nat} {sd : Int} : ∀ {k step b : Nat}, b < 2 ^ (F * R) → fillGo F R sd k step b < 2 ^ (F * R)
  | 0, _, _, h => h
  | k + 1, step, b, h => by
    unfold fillGo; split
    · exact fillGo_lt (fillStep_lt h)
    · exact h
theorem fill_lt {F R b : Nat} {sd : Int} (h : b < 2 ^ (F * R)) : fill F R b sd < 2 ^ (F * R) := fillGo_lt h
theorem front_lt {F R b : Nat} {sd : Int} (h : b < 2 ^ (F * R)) : front F R b sd < 2 ^ (F * R) := up_lt (fill_lt h)
structure Shape (F R : Nat) : Prop where
  f2 : 2 ≤ F
  f8 : F ≤ 8
  r3 : 3 ≤ R
  r8 : R ≤ 8
theorem Shape.sz {F R : Nat} (h : Shape F R) : F * R ≤ 64 := Nat.mul_le_mul h.f8 h.r8
theorem Shape.lt64 {F R b : Nat} (h : Shape F R) (hb : b < 2 ^ (F * R)) : b < 2 ^ 64 := Nat.lt_of_lt_of_le hb (Nat.pow_le_pow_right (by decide) h.sz)

section
variable {H : AH} {cf : CallF} {is : List Nat}
theorem og_t {β : Type} {k : Option β} : og true k = k := rfl
theorem bindT_one {i : Nat} {v : PV} {ρ : Vars} : bindT [i] v ρ = og (decide (i < ρ.length)) (some (ρ.set i (some v))) := rfl
theorem bindT_tup {i j : Nat} {r : List Nat} {vs : List PV} {ρ : Vars} : bindT (i :: j :: r) (.tup vs) ρ = setAll (i :: j :: r) vs ρ := rfl
theorem setAll_cons {i : Nat} {r : List Nat} {v : PV} {vs : List PV} {ρ : Vars} : setAll (i :: r) (v :: vs) ρ = og (decide (i < ρ.length)) (setAll r vs (ρ.set i (some v))) := rfl
theorem setAll_nil {ρ : Vars} : setAll [] [] ρ = some ρ := rfl
theorem cb_r1 {b : Int} (h : okRng 0 b 1 = true) : callB cf is .range1 [.int b] H = some (.rng 0 b 1, H) := by
  show og (okRng 0 b 1) _ = _; rw [h]; rfl
theorem cb_r2 {a b : Int} (h : okRng a b 1 = true) : callB cf is .range2 [.int a, .int b] H = some (.rng a b 1, H) := by
  show og (okRng a b 1) _ = _; rw [h]; rfl
theorem cb_r3 {a b c : Int} (h : okRng a b c = true) : callB cf is .range3 [.int a, .int b, .int c] H = some (.rng a b c, H) := by
  show og (okRng a b c) _ = _; rw [h]; rfl
theorem cb_len' {v : PV} {vs : List PV} (h : items H v = some vs) (hl : vs.length ≤ 1000) : callB cf is .len [v] H = some (.int vs.length, H) := by
  show oo (items H v) _ = _; rw [h]; show og (decide _) _ = _; rw [decide_eq_true hl]; rfl
theorem cb_sum' {v : PV} {vs : List PV} {l : List Int} (h : items H v = some vs) (hl : ints? vs = some l) : callB cf is .sum [v] H = some (.int l.sum, H) := by
  show oo (items H v) _ = _; rw [h]; show oo (ints? vs) _ = _; rw [hl]; rfl
theorem bo_rep {l k : Nat} {v : PV} (e : H[l]? = some (.list [v])) (h : k ≤ 1000) : binop H .mul (.loc l) (.int k) = some (.loc H.length, H ++ [.list (List.replicate k v)]) := by
  show oL H l _ = _
  unfold oL
  rw [e]
  show og (decide (0 ≤ (k : Int)) && decide ((k : Int) ≤ 1000)) _ = _
  rw [decide_eq_true (show 0 ≤ (k : Int) by lia), decide_eq_true (show (k : Int) ≤ 1000 by lia)]
  rfl
end
end Mine
end

section
set_option linter.unusedSimpArgs false
set_option maxRecDepth 100000
namespace Mine
open PySem.Builtin

section
variable {n l F R b : Nat} {sd : Int} {H : AH}
theorem ev_shift_up (g : Geo H l F R) (S : Shape F R) (hb : b < 2 ^ (F * R)) : run (n+1) 7 [.loc l, .int b, .int sd] H = some (.int (up F R b sd), H) := by
  refine wpO_eq (wp_run (d := d_shift_up) rfl rfl ?_)
  show wpSs n d_shift_up.body [some (.loc l), some (.int b), some (.int sd)] H _
  have h64 := S.lt64 hb
  have := S.f8
  simp only [d_shift_up, z14, z1q, z1r, z1d, z0p, z1a, z15, z1b, z0a, z09, z1f, z1e, z0o, z0u, z0v, z0s, z0r, z0q, z16, z0l, z17, z18, z1o, z1p, z0t, z0g, z0f, z0d, z0c, z0b, z0e, z0z, z0y, z0x, z0w, z10, z19, z1s, z0h, z0j, z0i, z0k, z1c, z1i, z1j, z1l, z1k, z1m, z1g, z0m, z0n, z07, z06, z05, z04, z08, z11, z1n, z12, z13, z1h, z1t, z3u, z3x, z1x, z1y, z3h, z3i, z3r, z3s, z3j, z3k, z3m, z3o, z3q, z3t, z3n, z2p, z2s, z37, z2k, z24, z25, z30, z2t, z31, z2f, z32, z2e, z2d, z3g, z3f, z2m, z2n, z2u, z2j, z2x, z35, z2l, z3a, z38, z2i, z2q, z2y, z36, z2o, z40, z41, z3y, z45, z42, z43, z3b, z3c, z47, z1w, z3d, z46, yy0, yy1, yy2, yy3, yy4, yy5, z00, z02, z01, z03, z1v, z1u, z1z, z22, z20, z21, z2a, z28, z29, z27, z26, z2b, theGlobs, yy8, yy9, yy6, ne_eq, g.a10, g.a13, wb_shlN (show F ≤ 1000000 by lia) h64, wb_shrN, bandN]
  unfold up
  by_cases h : sd = 0
  · simp only [if_pos h, yy8]
  · simp only [if_neg h, yy8]
theorem ev_neighbours (g : Geo H l F R) (S : Shape F R) (hb : b < 2 ^ (F * R)) : run (n+1) 8 [.loc l, .int b] H = some (.int (nb F R b), H) := by
  refine wpO_eq (wp_run (d := d_neighbours) rfl rfl ?_)
  show wpSs n d_neighbours.body [some (.loc l), some (.int b), none, none] H _
  have h64 := S.lt64 hb
  obtain ⟨fm, e1, e2, e3⟩ := g.a16
  have h2 := Nat.lt_of_le_of_lt (andn_le b (colMask F R (F - 1))) h64
  simp only [d_neighbours, z14, z1q, z1r, z1d, z0p, z1a, z15, z1b, z0a, z09, z1f, z1e, z0o, z0u, z0v, z0s, z0r, z0q, z16, z0l, z17, z18, z1o, z1p, z0t, z0g, z0f, z0d, z0c, z0b, z0e, z0z, z0y, z0x, z0w, z10, z19, z1s, z0h, z0j, z0i, z0k, z1c, z1i, z1j, z1l, z1k, z1m, z1g, z0m, z0n, z07, z06, z05, z04, z08, z11, z1n, z12, z13, z1h, z1t, z3u, z3x, z1x, z1y, z3h, z3i, z3r, z3s, z3j, z3k, z3m, z3o, z3q, z3t, z3n, z2p, z2s, z37, z2k, z24, z25, z30, z2t, z31, z2f, z32, z2e, z2d, z3g, z3f, z2m, z2n, z2u, z2j, z2x, z35, z2l, z3a, z38, z2i, z2q, z2y, z36, z2o, z40, z41, z3y, z45, z42, z43, z3b, z3c, z47, z1w, z3d, z46, yy0, yy1, yy2, yy3, yy4, yy5, z00, z02, z01, z03, z1v, z1u, z1z, z22, z20, z21, z2a, z28, z29, z27, z26, z2b, theGlobs, yy8, yy9, yy6, ne_eq, g.a10, g.a13, e1, e2, e3, bandnN, wb_shl1 h2, wb_shr1, borN, bandN]
  refine ⟨by lia, by lia, rfl⟩
theorem fill_loop (g : Geo H l F R) (S : Shape F R) {Q : Flw → Vars → AH → Prop} : ∀ (k fuel step b : Nat), F * R ≤ step * 2 ^ k → k < fuel → step ≤ 1000 → b < 2 ^ (F * R) →
    (∀ st : Nat, Q .next [some (.loc l), some (.int (fillGo F R sd k step b : Nat)), some (.int sd), some (.int st)] H) →
    wpW n (.cmp .lt (.var 3) (.attr (.var 0) 12)) (.cons (.ite (.cmp .eq (.var 2) (.glob 0)) (.cons (.aug 1 .bor (.bin .band (.bin .shl (.var 1) (.var 3)) (.attr (.var 0) 13))) .nil) (.cons (.aug 1 .bor (.bin .shr (.var 1) (.var 3))) .nil)) (.cons (.aug 3 .add (.var 3)) .nil)) fuel
      [some (.loc l), some (.int b), some (.int sd), some (.int step)] H Q
  | k, 0, _, _, _, h, _, _, _ => absurd h (Nat.not_lt_zero _)
  | k, fuel + 1, step, b, hk, hf, hs, hb, q => by
    have h64 := S.lt64 hb
    have hsz := S.sz
    refine wpW_succ ?_
    simp only [z14, z1q, z1r, z1d, z0p, z1a, z15, z1b, z0a, z09, z1f, z1e, z0o, z0u, z0v, z0s, z0r, z0q, z16, z0l, z17, z18, z1o, z1p, z0t, z0g, z0f, z0d, z0c, z0b, z0e, z0z, z0y, z0x, z0w, z10, z19, z1s, z0h, z0j, z0i, z0k, z1c, z1i, z1j, z1l, z1k, z1m, z1g, z0m, z0n, z07, z06, z05, z04, z08, z11, z1n, z12, z13, z1h, z1t, z3u, z3x, z1x, z1y, z3h, z3i, z3r, z3s, z3j, z3k, z3m, z3o, z3q, z3t, z3n, z2p, z2s, z37, z2k, z24, z25, z30, z2t, z31, z2f, z32, z2e, z2d, z3g, z3f, z2m, z2n, z2u, z2j, z2x, z35, z2l, z3a, z38, z2i, z2q, z2y, z36, z2o, z40, z41, z3y, z45, z42, z43, z3b, z3c, z47, z1w, z3d, z46, yy0, yy1, yy2, yy3, yy4, yy5, z00, z02, z01, z03, z1v, z1u, z1z, z22, z20, z21, z2a, z28, z29, z27, z26, z2b, theGlobs, yy8, yy9, yy6, ne_eq, g.a12]
    by_cases h : step < F * R
    · rw [if_pos (by lia)]
      cases k with
      | zero => rw [Nat.pow_zero, Nat.mul_one] at hk; lia
      | succ k =>
        have e : fillGo F R sd (k + 1) step b = fillGo F R sd k (step + step) (fillStep F R sd step b) := by rw [fillGo, if_pos h]
        have nxt := fill_loop g S k fuel (step + step) (fillStep F R sd step b) (by rw [Nat.pow_succ] at hk; rw [← Nat.two_mul, Nat.mul_comm 2, Nat.mul_assoc, Nat.mul_comm 2]; exact hk) (by lia) (by lia) (fillStep_lt hb) (fun st => by rw [← e]; exact q st)
        by_cases h0 : sd = 0
        · rw [if_pos h0]
          simp only [g.a13, wb_shlN (show step ≤ 1000000 by lia) h64, bandN, borN, z14, z1q, z1r, z1d, z0p, z1a, z15, z1b, z0a, z09, z1f, z1e, z0o, z0u, z0v, z0s, z0r, z0q, z16, z0l, z17, z18, z1o, z1p, z0t, z0g, z0f, z0d, z0c, z0b, z0e, z0z, z0y, z0x, z0w, z10, z19, z1s, z0h, z0j, z0i, z0k, z1c, z1i, z1j, z1l, z1k, z1m, z1g, z0m, z0n, z07, z06, z05, z04, z08, z11, z1n, z12, z13, z1h, z1t, z3u, z3x, z1x, z1y, z3h, z3i, z3r, z3s, z3j, z3k, z3m, z3o, z3q, z3t, z3n, z2p, z2s, z37, z2k, z24, z25, z30, z2t, z31, z2f, z32, z2e, z2d, z3g, z3f, z2m, z2n, z2u, z2j, z2x, z35, z2l, z3a, z38, z2i, z2q, z2y, z36, z2o, z40, z41, z3y, z45, z42, z43, z3b, z3c, z47, z1w, z3d, z46, yy0, yy1, yy2, yy3, yy4, yy5, z00, z02, z01, z03, z1v, z1u, z1z, z22, z20, z21, z2a, z28, z29, z27, z26, z2b, theGlobs, yy8, yy9, yy6, ne_eq]
          rw [fillStep, if_pos h0] at nxt
          rw [show ((step : Int) + (step : Int)) = ((step + step : Nat) : Int) by lia]
          exact nxt
        · rw [if_neg h0]
          simp only [wb_shrN, borN, z14, z1q, z1r, z1d, z0p, z1a, z15, z1b, z0a, z09, z1f, z1e, z0o, z0u, z0v, z0s, z0r, z0q, z16, z0l, z17, z18, z1o, z1p, z0t, z0g, z0f, z0d, z0c, z0b, z0e, z0z, z0y, z0x, z0w, z10, z19, z1s, z0h, z0j, z0i, z0k, z1c, z1i, z1j, z1l, z1k, z1m, z1g, z0m, z0n, z07, z06, z05, z04, z08, z11, z1n, z12, z13, z1h, z1t, z3u, z3x, z1x, z1y, z3h, z3i, z3r, z3s, z3j, z3k, z3m, z3o, z3q, z3t, z3n, z2p, z2s, z37, z2k, z24, z25, z30, z2t, z31, z2f, z32, z2e, z2d, z3g, z3f, z2m, z2n, z2u, z2j, z2x, z35, z2l, z3a, z38, z2i, z2q, z2y, z36, z2o, z40, z41, z3y, z45, z42, z43, z3b, z3c, z47, z1w, z3d, z46, yy0, yy1, yy2, yy3, yy4, yy5, z00, z02, z01, z03, z1v, z1u, z1z, z22, z20, z21, z2a, z28, z29, z27, z26, z2b, theGlobs, yy8, yy9, yy6, ne_eq]
          rw [fillStep, if_neg h0] at nxt
          rw [show ((step : Int) + (step : Int)) = ((step + step : Nat) : Int) by lia]
          exact nxt
    · rw [if_neg (by lia)]
      have e : fillGo F R sd k step b = b := by
        cases k with
        | zero => rfl
        | succ k => rw [fillGo, if_neg h]
      rw [e] at q
      exact q step
theorem ev_fill_up (g : Geo H l F R) (S : Shape F R) (hb : b < 2 ^ (F * R)) : run (n+1) 9 [.loc l, .int b, .int sd] H = some (.int (fill F R b sd), H) := by
  refine wpO_eq (wp_run (d := d_fill_up) rfl rfl ?_)
  show wpSs n d_fill_up.body [some (.loc l), some (.int b), some (.int sd), none] H _
  simp only [d_fill_up, z14, z1q, z1r, z1d, z0p, z1a, z15, z1b, z0a, z09, z1f, z1e, z0o, z0u, z0v, z0s, z0r, z0q, z16, z0l, z17, z18, z1o, z1p, z0t, z0g, z0f, z0d, z0c, z0b, z0e, z0z, z0y, z0x, z0w, z10, z19, z1s, z0h, z0j, z0i, z0k, z1c, z1i, z1j, z1l, z1k, z1m, z1g, z0m, z0n, z07, z06, z05, z04, z08, z11, z1n, z12, z13, z1h, z1t, z3u, z3x, z1x, z1y, z3h, z3i, z3r, z3s, z3j, z3k, z3m, z3o, z3q, z3t, z3n, z2p, z2s, z37, z2k, z24, z25, z30, z2t, z31, z2f, z32, z2e, z2d, z3g, z3f, z2m, z2n, z2u, z2j, z2x, z35, z2l, z3a, z38, z2i, z2q, z2y, z36, z2o, z40, z41, z3y, z45, z42, z43, z3b, z3c, z47, z1w, z3d, z46, yy0, yy1, yy2, yy3, yy4, yy5, z00, z02, z01, z03, z1v, z1u, z1z, z22, z20, z21, z2a, z28, z29, z27, z26, z2b, theGlobs, yy8, yy9, yy6, ne_eq, g.a10]
  refine ⟨by lia, ?_⟩
  have h1 := S.f2; have h2 := S.r8; have h8 := S.f8
  refine fill_loop g S 7 200 F b ?_ (by decide) (by lia) hb fun st => ?_
  · exact Nat.mul_le_mul_left F (Nat.le_trans h2 (by decide))
  · simp only [z14, z1q, z1r, z1d, z0p, z1a, z15, z1b, z0a, z09, z1f, z1e, z0o, z0u, z0v, z0s, z0r, z0q, z16, z0l, z17, z18, z1o, z1p, z0t, z0g, z0f, z0d, z0c, z0b, z0e, z0z, z0y, z0x, z0w, z10, z19, z1s, z0h, z0j, z0i, z0k, z1c, z1i, z1j, z1l, z1k, z1m, z1g, z0m, z0n, z07, z06, z05, z04, z08, z11, z1n, z12, z13, z1h, z1t, z3u, z3x, z1x, z1y, z3h, z3i, z3r, z3s, z3j, z3k, z3m, z3o, z3q, z3t, z3n, z2p, z2s, z37, z2k, z24, z25, z30, z2t, z31, z2f, z32, z2e, z2d, z3g, z3f, z2m, z2n, z2u, z2j, z2x, z35, z2l, z3a, z38, z2i, z2q, z2y, z36, z2o, z40, z41, z3y, z45, z42, z43, z3b, z3c, z47, z1w, z3d, z46, yy0, yy1, yy2, yy3, yy4, yy5, z00, z02, z01, z03, z1v, z1u, z1z, z22, z20, z21, z2a, z28, z29, z27, z26, z2b, theGlobs, yy8, yy9, yy6, ne_eq]
    first | rfl | exact ⟨rfl, rfl⟩
theorem ev_front (g : Geo H l F R) (S : Shape F R) (hb : b < 2 ^ (F * R)) : run (n+2) 10 [.loc l, .int b, .int sd] H = some (.int (front F R b sd), H) := by
  refine wpO_eq (wp_run (d := d_front_span) rfl rfl ?_)
  show wpSs (n+1) d_front_span.body [some (.loc l), some (.int b), some (.int sd)] H _
  simp only [d_front_span, z14, z1q, z1r, z1d, z0p, z1a, z15, z1b, z0a, z09, z1f, z1e, z0o, z0u, z0v, z0s, z0r, z0q, z16, z0l, z17, z18, z1o, z1p, z0t, z0g, z0f, z0d, z0c, z0b, z0e, z0z, z0y, z0x, z0w, z10, z19, z1s, z0h, z0j, z0i, z0k, z1c, z1i, z1j, z1l, z1k, z1m, z1g, z0m, z0n, z07, z06, z05, z04, z08, z11, z1n, z12, z13, z1h, z1t, z3u, z3x, z1x, z1y, z3h, z3i, z3r, z3s, z3j, z3k, z3m, z3o, z3q, z3t, z3n, z2p, z2s, z37, z2k, z24, z25, z30, z2t, z31, z2f, z32, z2e, z2d, z3g, z3f, z2m, z2n, z2u, z2j, z2x, z35, z2l, z3a, z38, z2i, z2q, z2y, z36, z2o, z40, z41, z3y, z45, z42, z43, z3b, z3c, z47, z1w, z3d, z46, yy0, yy1, yy2, yy3, yy4, yy5, z00, z02, z01, z03, z1v, z1u, z1z, z22, z20, z21, z2a, z28, z29, z27, z26, z2b, theGlobs, yy8, yy9, yy6, ne_eq, ev_fill_up g S hb, ev_shift_up g S (fill_lt hb)]
  first | rfl | exact ⟨rfl, rfl⟩
theorem ev_attack_span (g : Geo H l F R) (S : Shape F R) (hb : b < 2 ^ (F * R)) : run (n+3) 11 [.loc l, .int b, .int sd] H = some (.int (front F R (nb F R b) sd), H) := by
  refine wpO_eq (wp_run (d := d_attack_span) rfl rfl ?_)
  show wpSs (n+2) d_attack_span.body [some (.loc l), some (.int b), some (.int sd)] H _
  simp only [d_attack_span, z14, z1q, z1r, z1d, z0p, z1a, z15, z1b, z0a, z09, z1f, z1e, z0o, z0u, z0v, z0s, z0r, z0q, z16, z0l, z17, z18, z1o, z1p, z0t, z0g, z0f, z0d, z0c, z0b, z0e, z0z, z0y, z0x, z0w, z10, z19, z1s, z0h, z0j, z0i, z0k, z1c, z1i, z1j, z1l, z1k, z1m, z1g, z0m, z0n, z07, z06, z05, z04, z08, z11, z1n, z12, z13, z1h, z1t, z3u, z3x, z1x, z1y, z3h, z3i, z3r, z3s, z3j, z3k, z3m, z3o, z3q, z3t, z3n, z2p, z2s, z37, z2k, z24, z25, z30, z2t, z31, z2f, z32, z2e, z2d, z3g, z3f, z2m, z2n, z2u, z2j, z2x, z35, z2l, z3a, z38, z2i, z2q, z2y, z36, z2o, z40, z41, z3y, z45, z42, z43, z3b, z3c, z47, z1w, z3d, z46, yy0, yy1, yy2, yy3, yy4, yy5, z00, z02, z01, z03, z1v, z1u, z1z, z22, z20, z21, z2a, z28, z29, z27, z26, z2b, theGlobs, yy8, yy9, yy6, ne_eq, ev_neighbours g S hb, ev_front g S nb_lt]
theorem ev_pawn_attacks (g : Geo H l F R) (S : Shape F R) (hb : b < 2 ^ (F * R)) : run (n+2) 12 [.loc l, .int b, .int sd] H = some (.int (up F R (nb F R b) sd), H) := by
  refine wpO_eq (wp_run (d := d_pawn_attacks) rfl rfl ?_)
  show wpSs (n+1) d_pawn_attacks.body [some (.loc l), some (.int b), some (.int sd)] H _
  simp only [d_pawn_attacks, z14, z1q, z1r, z1d, z0p, z1a, z15, z1b, z0a, z09, z1f, z1e, z0o, z0u, z0v, z0s, z0r, z0q, z16, z0l, z17, z18, z1o, z1p, z0t, z0g, z0f, z0d, z0c, z0b, z0e, z0z, z0y, z0x, z0w, z10, z19, z1s, z0h, z0j, z0i, z0k, z1c, z1i, z1j, z1l, z1k, z1m, z1g, z0m, z0n, z07, z06, z05, z04, z08, z11, z1n, z12, z13, z1h, z1t, z3u, z3x, z1x, z1y, z3h, z3i, z3r, z3s, z3j, z3k, z3m, z3o, z3q, z3t, z3n, z2p, z2s, z37, z2k, z24, z25, z30, z2t, z31, z2f, z32, z2e, z2d, z3g, z3f, z2m, z2n, z2u, z2j, z2x, z35, z2l, z3a, z38, z2i, z2q, z2y, z36, z2o, z40, z41, z3y, z45, z42, z43, z3b, z3c, z47, z1w, z3d, z46, yy0, yy1, yy2, yy3, yy4, yy5, z00, z02, z01, z03, z1v, z1u, z1z, z22, z20, z21, z2a, z28, z29, z27, z26, z2b, theGlobs, yy8, yy9, yy6, ne_eq, ev_neighbours g S hb, ev_shift_up g S nb_lt]
theorem ev_make_score {mg eg : Int} (h : small eg = true) : run (n+1) 4 [.int mg, .int eg] H = some (.int (eg * 65536 + mg), H) := by
  refine wpO_eq (wp_run (d := d_make_score) rfl rfl ?_)
  show wpSs n d_make_score.body [some (.int mg), some (.int eg)] H _
  simp only [d_make_score, z14, z1q, z1r, z1d, z0p, z1a, z15, z1b, z0a, z09, z1f, z1e, z0o, z0u, z0v, z0s, z0r, z0q, z16, z0l, z17, z18, z1o, z1p, z0t, z0g, z0f, z0d, z0c, z0b, z0e, z0z, z0y, z0x, z0w, z10, z19, z1s, z0h, z0j, z0i, z0k, z1c, z1i, z1j, z1l, z1k, z1m, z1g, z0m, z0n, z07, z06, z05, z04, z08, z11, z1n, z12, z13, z1h, z1t, z3u, z3x, z1x, z1y, z3h, z3i, z3r, z3s, z3j, z3k, z3m, z3o, z3q, z3t, z3n, z2p, z2s, z37, z2k, z24, z25, z30, z2t, z31, z2f, z32, z2e, z2d, z3g, z3f, z2m, z2n, z2u, z2j, z2x, z35, z2l, z3a, z38, z2i, z2q, z2y, z36, z2o, z40, z41, z3y, z45, z42, z43, z3b, z3c, z47, z1w, z3d, z46, yy0, yy1, yy2, yy3, yy4, yy5, z00, z02, z01, z03, z1v, z1u, z1z, z22, z20, z21, z2a, z28, z29, z27, z26, z2b, theGlobs, yy8, yy9, yy6, ne_eq, wb_shl, h]
  exact ⟨rfl, rfl⟩
noncomputable def rk (F R : Nat) (sd : Int) (s : Nat) : Int := if sd = 0 then ((s / F : Nat) : Int) else R - 1 - ((s / F : Nat) : Int)
theorem fdivN (a b : Nat) : (a : Int).fdiv b = ((a / b : Nat) : Int) := by
  rw [Int.fdiv_eq_ediv_of_nonneg _ (by lia)]; lia
theorem fmodN (a b : Nat) : (a : Int).fmod b = ((a % b : Nat) : Int) := by
  rw [Int.fmod_eq_emod_of_nonneg _ (by lia)]; lia
theorem ev_own_rank (g : Geo H l F R) (S : Shape F R) {s : Nat} : run (n+1) 2 [.loc l, .int sd, .int s] H = some (.int (rk F R sd s), H) := by
  refine wpO_eq (wp_run (d := d_own_rank) rfl rfl ?_)
  show wpSs n d_own_rank.body [some (.loc l), some (.int sd), some (.int s), none] H _
  have h1 := S.f2; have h8 := S.f8
  simp only [d_own_rank, z14, z1q, z1r, z1d, z0p, z1a, z15, z1b, z0a, z09, z1f, z1e, z0o, z0u, z0v, z0s, z0r, z0q, z16, z0l, z17, z18, z1o, z1p, z0t, z0g, z0f, z0d, z0c, z0b, z0e, z0z, z0y, z0x, z0w, z10, z19, z1s, z0h, z0j, z0i, z0k, z1c, z1i, z1j, z1l, z1k, z1m, z1g, z0m, z0n, z07, z06, z05, z04, z08, z11, z1n, z12, z13, z1h, z1t, z3u, z3x, z1x, z1y, z3h, z3i, z3r, z3s, z3j, z3k, z3m, z3o, z3q, z3t, z3n, z2p, z2s, z37, z2k, z24, z25, z30, z2t, z31, z2f, z32, z2e, z2d, z3g, z3f, z2m, z2n, z2u, z2j, z2x, z35, z2l, z3a, z38, z2i, z2q, z2y, z36, z2o, z40, z41, z3y, z45, z42, z43, z3b, z3c, z47, z1w, z3d, z46, yy0, yy1, yy2, yy3, yy4, yy5, z00, z02, z01, z03, z1v, z1u, z1z, z22, z20, z21, z2a, z28, z29, z27, z26, z2b, theGlobs, yy8, yy9, yy6, ne_eq, g.a10, g.a11, wb_fdiv, fdivN]
  refine ⟨by rw [Bool.and_eq_true, Bool.not_eq_true', decide_eq_false_iff_not, yy6]; lia, by lia, ?_⟩
  unfold rk
  by_cases h : sd = 0
  · simp only [if_pos h, yy8]
  · simp only [if_neg h, yy8]
noncomputable def divI (a : Int) : Int := if a < 0 then -((-a).fdiv 4) else a.fdiv 4
theorem ev_divide {a : Int} : run (n+1) 3 [.int a, .int 4] H = some (.int (divI a), H) := by
  refine wpO_eq (wp_run (d := d_divide) rfl rfl ?_)
  show wpSs n d_divide.body [some (.int a), some (.int 4), none] H _
  have e1 : ∀ x : Int, callB (run n) inits .abs [.int x] H = some (.int (if x < 0 then -x else x), H) := fun x => rfl
  have e2 : (if (4 : Int) < 0 then -4 else 4) = (4 : Int) := rfl
  have e3 : ((!decide ((4 : Int) = 0)) && decide ((4 : Int).natAbs < 1073741824)) = true := rfl
  have e4 : decide ((4 : Int) < 0) = false := rfl
  simp only [d_divide, z14, z1q, z1r, z1d, z0p, z1a, z15, z1b, z0a, z09, z1f, z1e, z0o, z0u, z0v, z0s, z0r, z0q, z16, z0l, z17, z18, z1o, z1p, z0t, z0g, z0f, z0d, z0c, z0b, z0e, z0z, z0y, z0x, z0w, z10, z19, z1s, z0h, z0j, z0i, z0k, z1c, z1i, z1j, z1l, z1k, z1m, z1g, z0m, z0n, z07, z06, z05, z04, z08, z11, z1n, z12, z13, z1h, z1t, z3u, z3x, z1x, z1y, z3h, z3i, z3r, z3s, z3j, z3k, z3m, z3o, z3q, z3t, z3n, z2p, z2s, z37, z2k, z24, z25, z30, z2t, z31, z2f, z32, z2e, z2d, z3g, z3f, z2m, z2n, z2u, z2j, z2x, z35, z2l, z3a, z38, z2i, z2q, z2y, z36, z2o, z40, z41, z3y, z45, z42, z43, z3b, z3c, z47, z1w, z3d, z46, yy0, yy1, yy2, yy3, yy4, yy5, z00, z02, z01, z03, z1v, z1u, z1z, z22, z20, z21, z2a, z28, z29, z27, z26, z2b, theGlobs, yy8, yy9, yy6, ne_eq, e1, e2, wb_fdiv, e3, e4]
  refine ⟨by lia, ?_⟩
  unfold divI
  by_cases h : a < 0
  · simp only [if_pos h, h, decide_true, show (true != false) = true from rfl, if_true]
  · simp only [if_neg h, h, decide_false, show (false != false) = false from rfl, Bool.false_eq_true, if_false]
end
end Mine
end

section
set_option linter.unusedSimpArgs false
set_option maxRecDepth 100000
namespace Mine
open PySem.Builtin

noncomputable def sq : Nat → Nat → Nat → List Nat
  | 0, _, _ => []
  | N + 1, b, k => if b % 2 = 1 then k :: sq N (b / 2) (k + 1) else sq N (b / 2) (k + 1)
theorem sq_zero : ∀ N k, sq N 0 k = []
  | 0, _ => rfl
  | N + 1, k => by simp [sq, sq_zero N]
theorem sq_more : ∀ (N M b k : Nat), b < 2 ^ N → N ≤ M → sq M b k = sq N b k
  | 0, M, b, k, h, _ => by
    have : b = 0 := by rw [Nat.pow_zero] at h; lia
    subst this; rw [sq_zero, sq_zero]
  | N + 1, 0, _, _, _, h => absurd h (by lia)
  | N + 1, M + 1, b, k, h, hm => by
    rw [sq, sq, sq_more N M (b / 2) (k + 1) (by rw [Nat.pow_succ] at h; lia) (by lia)]
theorem sq_range : ∀ (N b k : Nat), sq N b k = ((List.range N).filter fun i => b.testBit i).map (· + k)
  | 0, _, _ => rfl
  | N + 1, b, k => by
    rw [sq, sq_range N (b / 2) (k + 1), List.range_succ_eq_map, List.filter_cons, List.filter_map]
    have e : ((fun i => b.testBit i) ∘ Nat.succ) = fun i => (b / 2).testBit i := by
      funext i; simp only [Function.comp, Nat.succ_eq_add_one, Nat.testBit_succ]
    rw [e, Nat.testBit_zero]
    by_cases h : b % 2 = 1
    · rw [if_pos h, if_pos (by simpa using h)]
      simp [List.map_map, Function.comp_def]; intros; lia
    · rw [if_neg h, if_neg (by simpa using h)]
      simp [List.map_map, Function.comp_def]; intros; lia
theorem low_clear {b : Nat} (h : 0 < b) : (b &&& (b - 1)) % 2 = 0 ∧ (b &&& (b - 1)) / 2 = if b % 2 = 1 then b / 2 else b / 2 &&& (b / 2 - 1) := by
  constructor
  · have : ¬ (b &&& (b - 1)) % 2 = 1 := by
      rw [Nat.and_mod_two_eq_one]; lia
    lia
  · rw [Nat.and_div_two]
    split
    · have : (b - 1) / 2 = b / 2 := by lia
      rw [this, Nat.and_self]
    · have : (b - 1) / 2 = b / 2 - 1 := by lia
      rw [this]
theorem sq_clear : ∀ (N b k : Nat), 0 < b → b < 2 ^ N → (sq N (b &&& (b - 1)) k).length + 1 = (sq N b k).length
  | 0, b, _, h, h2 => by rw [Nat.pow_zero] at h2; lia
  | N + 1, b, k, h, h2 => by
    obtain ⟨e1, e2⟩ := low_clear h
    rw [sq, sq, if_neg (by lia), e2]
    split
    · rw [yy0]
    · exact sq_clear N (b / 2) (k + 1) (by lia) (by rw [Nat.pow_succ] at h2; lia)
noncomputable def pc (b : Nat) : Nat := (sq 64 b 0).length
theorem pc_zero : pc 0 = 0 := by unfold pc; rw [sq_zero]; rfl
theorem and_pred {b : Nat} (h : 0 < b) : bitAnd (b : Int) ((b : Int) - 1) = ((b &&& (b - 1) : Nat) : Int) := by
  rw [show ((b : Int) - 1) = ((b - 1 : Nat) : Int) by lia, bandN]

section
variable {n : Nat} {H : AH}
theorem count_loop {Q : Flw → Vars → AH → Prop} : ∀ (fuel b c : Nat), pc b < fuel → b < 2 ^ 64 → Q .next [some (.int 0), some (.int (c + pc b : Nat))] H →
    wpW n (.var 0) (.cons (.aug 0 .band (.bin .sub (.var 0) (.const (.int 1)))) (.cons (.aug 1 .add (.const (.int 1))) .nil)) fuel [some (.int b), some (.int c)] H Q
  | 0, _, _, h, _, _ => absurd h (Nat.not_lt_zero _)
  | fuel + 1, b, c, h, hb, q => by
    refine wpW_succ ?_
    simp only [z14, z1q, z1r, z1d, z0p, z1a, z15, z1b, z0a, z09, z1f, z1e, z0o, z0u, z0v, z0s, z0r, z0q, z16, z0l, z17, z18, z1o, z1p, z0t, z0g, z0f, z0d, z0c, z0b, z0e, z0z, z0y, z0x, z0w, z10, z19, z1s, z0h, z0j, z0i, z0k, z1c, z1i, z1j, z1l, z1k, z1m, z1g, z0m, z0n, z07, z06, z05, z04, z08, z11, z1n, z12, z13, z1h, z1t, z3u, z3x, z1x, z1y, z3h, z3i, z3r, z3s, z3j, z3k, z3m, z3o, z3q, z3t, z3n, z2p, z2s, z37, z2k, z24, z25, z30, z2t, z31, z2f, z32, z2e, z2d, z3g, z3f, z2m, z2n, z2u, z2j, z2x, z35, z2l, z3a, z38, z2i, z2q, z2y, z36, z2o, z40, z41, z3y, z45, z42, z43, z3b, z3c, z47, z1w, z3d, z46, yy0, yy1, yy2, yy3, yy4, yy5, z00, z02, z01, z03, z1v, z1u, z1z, z22, z20, z21, z2a, z28, z29, z27, z26, z2b, theGlobs, yy8, yy9, yy6, ne_eq]
    by_cases h0 : b = 0
    · subst h0
      rw [if_neg (by simp)]
      rw [pc_zero] at q
      exact q
    · rw [if_pos (by lia), and_pred (by lia)]
      have e := sq_clear 64 b 0 (by lia) hb
      have e' : pc (b &&& (b - 1)) + 1 = pc b := e
      refine count_loop fuel (b &&& (b - 1)) (c + 1) (by lia) (Nat.lt_of_le_of_lt Nat.and_le_left hb) ?_
      rw [show c + 1 + pc (b &&& (b - 1)) = c + pc b by lia]
      exact q
theorem sq_len : ∀ N b k, (sq N b k).length ≤ N
  | 0, _, _ => Nat.le_refl 0
  | N + 1, b, k => by
    rw [sq]; split
    · exact Nat.succ_le_succ (sq_len N _ _)
    · exact Nat.le_succ_of_le (sq_len N _ _)
theorem ev_count_bits {b : Nat} (hb : b < 2 ^ 64) : run (n+1) 0 [.int b] H = some (.int (pc b), H) := by
  refine wpO_eq (wp_run (d := d_count_bits) rfl rfl ?_)
  show wpSs n d_count_bits.body [some (.int b), none] H _
  simp only [d_count_bits, z14, z1q, z1r, z1d, z0p, z1a, z15, z1b, z0a, z09, z1f, z1e, z0o, z0u, z0v, z0s, z0r, z0q, z16, z0l, z17, z18, z1o, z1p, z0t, z0g, z0f, z0d, z0c, z0b, z0e, z0z, z0y, z0x, z0w, z10, z19, z1s, z0h, z0j, z0i, z0k, z1c, z1i, z1j, z1l, z1k, z1m, z1g, z0m, z0n, z07, z06, z05, z04, z08, z11, z1n, z12, z13, z1h, z1t, z3u, z3x, z1x, z1y, z3h, z3i, z3r, z3s, z3j, z3k, z3m, z3o, z3q, z3t, z3n, z2p, z2s, z37, z2k, z24, z25, z30, z2t, z31, z2f, z32, z2e, z2d, z3g, z3f, z2m, z2n, z2u, z2j, z2x, z35, z2l, z3a, z38, z2i, z2q, z2y, z36, z2o, z40, z41, z3y, z45, z42, z43, z3b, z3c, z47, z1w, z3d, z46, yy0, yy1, yy2, yy3, yy4, yy5, z00, z02, z01, z03, z1v, z1u, z1z, z22, z20, z21, z2a, z28, z29, z27, z26, z2b, theGlobs, yy8, yy9, yy6, ne_eq]
  refine ⟨by lia, ?_⟩
  refine count_loop (c := 0) 200 b ?_ hb ?_
  · have := sq_len 64 b 0
    show (sq 64 b 0).length < 200
    lia
  · simp only [z14, z1q, z1r, z1d, z0p, z1a, z15, z1b, z0a, z09, z1f, z1e, z0o, z0u, z0v, z0s, z0r, z0q, z16, z0l, z17, z18, z1o, z1p, z0t, z0g, z0f, z0d, z0c, z0b, z0e, z0z, z0y, z0x, z0w, z10, z19, z1s, z0h, z0j, z0i, z0k, z1c, z1i, z1j, z1l, z1k, z1m, z1g, z0m, z0n, z07, z06, z05, z04, z08, z11, z1n, z12, z13, z1h, z1t, z3u, z3x, z1x, z1y, z3h, z3i, z3r, z3s, z3j, z3k, z3m, z3o, z3q, z3t, z3n, z2p, z2s, z37, z2k, z24, z25, z30, z2t, z31, z2f, z32, z2e, z2d, z3g, z3f, z2m, z2n, z2u, z2j, z2x, z35, z2l, z3a, z38, z2i, z2q, z2y, z36, z2o, z40, z41, z3y, z45, z42, z43, z3b, z3c, z47, z1w, z3d, z46, yy0, yy1, yy2, yy3, yy4, yy5, z00, z02, z01, z03, z1v, z1u, z1z, z22, z20, z21, z2a, z28, z29, z27, z26, z2b, theGlobs, yy8, yy9, yy6, ne_eq, yy7]

theorem band15 (b : Nat) : bitAnd (b : Int) 15 = ((b % 16 : Nat) : Int) := by
  rw [show (15 : Int) = ((15 : Nat) : Int) from rfl, bandN, show 15 = 2 ^ 4 - 1 from rfl, Nat.and_two_pow_sub_one_eq_mod]
theorem band1 (b : Nat) : bitAnd (b : Int) 1 = ((b % 2 : Nat) : Int) := by
  rw [show (1 : Int) = ((1 : Nat) : Int) from rfl, bandN, show 1 = 2 ^ 1 - 1 from rfl, Nat.and_two_pow_sub_one_eq_mod]
theorem sq_skip {N b k : Nat} (h : b % 16 = 0) : sq (N + 4) b k = sq N (b / 16) (k + 4) := by
  rw [sq, if_neg (by lia), sq, if_neg (by lia), sq, if_neg (by lia), sq, if_neg (by lia)]
  rw [show b / 2 / 2 / 2 / 2 = b / 16 by lia]
noncomputable abbrev sqInner : Sts := .cons (.aug 0 .shr (.const (.int 4))) (.cons (.aug 2 .add (.const (.int 4))) .nil)
noncomputable abbrev sqBody : Sts := .cons (.while (.not (.bin .band (.var 0) (.const (.int 15)))) sqInner)
  (.cons (.ite (.bin .band (.var 0) (.const (.int 1))) (.cons (.expr (.append (.var 1) (.var 2))) .nil) .nil)
  (.cons (.aug 0 .shr (.const (.int 1))) (.cons (.aug 2 .add (.const (.int 1))) .nil)))
theorem inner_loop {Q : Flw → Vars → AH → Prop} {ov : Option PV} : ∀ (fuel N b k : Nat), 0 < b → b < 2 ^ N → N < fuel →
    (∀ b' k' N' : Nat, 0 < b' → b' < 2 ^ N' → N' ≤ N → sq N' b' k' = sq N b k → Q .next [some (.int b'), ov, some (.int k')] H) →
    wpW n (.not (.bin .band (.var 0) (.const (.int 15)))) sqInner fuel [some (.int b), ov, some (.int k)] H Q
  | 0, _, _, _, _, _, h, _ => absurd h (Nat.not_lt_zero _)
  | fuel + 1, N, b, k, h0, hb, hf, q => by
    refine wpW_succ ?_
    simp only [z14, z1q, z1r, z1d, z0p, z1a, z15, z1b, z0a, z09, z1f, z1e, z0o, z0u, z0v, z0s, z0r, z0q, z16, z0l, z17, z18, z1o, z1p, z0t, z0g, z0f, z0d, z0c, z0b, z0e, z0z, z0y, z0x, z0w, z10, z19, z1s, z0h, z0j, z0i, z0k, z1c, z1i, z1j, z1l, z1k, z1m, z1g, z0m, z0n, z07, z06, z05, z04, z08, z11, z1n, z12, z13, z1h, z1t, z3u, z3x, z1x, z1y, z3h, z3i, z3r, z3s, z3j, z3k, z3m, z3o, z3q, z3t, z3n, z2p, z2s, z37, z2k, z24, z25, z30, z2t, z31, z2f, z32, z2e, z2d, z3g, z3f, z2m, z2n, z2u, z2j, z2x, z35, z2l, z3a, z38, z2i, z2q, z2y, z36, z2o, z40, z41, z3y, z45, z42, z43, z3b, z3c, z47, z1w, z3d, z46, yy0, yy1, yy2, yy3, yy4, yy5, z00, z02, z01, z03, z1v, z1u, z1z, z22, z20, z21, z2a, z28, z29, z27, z26, z2b, theGlobs, yy8, yy9, yy6, ne_eq, band15, sqInner]
    by_cases h : b % 16 = 0
    · rw [if_pos (by rw [h]; rfl)]
      simp only [wb_shr4, z14, z1q, z1r, z1d, z0p, z1a, z15, z1b, z0a, z09, z1f, z1e, z0o, z0u, z0v, z0s, z0r, z0q, z16, z0l, z17, z18, z1o, z1p, z0t, z0g, z0f, z0d, z0c, z0b, z0e, z0z, z0y, z0x, z0w, z10, z19, z1s, z0h, z0j, z0i, z0k, z1c, z1i, z1j, z1l, z1k, z1m, z1g, z0m, z0n, z07, z06, z05, z04, z08, z11, z1n, z12, z13, z1h, z1t, z3u, z3x, z1x, z1y, z3h, z3i, z3r, z3s, z3j, z3k, z3m, z3o, z3q, z3t, z3n, z2p, z2s, z37, z2k, z24, z25, z30, z2t, z31, z2f, z32, z2e, z2d, z3g, z3f, z2m, z2n, z2u, z2j, z2x, z35, z2l, z3a, z38, z2i, z2q, z2y, z36, z2o, z40, z41, z3y, z45, z42, z43, z3b, z3c, z47, z1w, z3d, z46, yy0, yy1, yy2, yy3, yy4, yy5, z00, z02, z01, z03, z1v, z1u, z1z, z22, z20, z21, z2a, z28, z29, z27, z26, z2b, theGlobs, yy8, yy9, yy6, ne_eq]
      have hN : 4 ≤ N := by
        rcases Nat.lt_or_ge N 4 with h4 | h4
        · have : 2 ^ N ≤ 2 ^ 3 := Nat.pow_le_pow_right (by decide) (by lia)
          lia
        · exact h4
      obtain ⟨M, rfl⟩ : ∃ M, N = M + 4 := ⟨N - 4, by lia⟩
      have e : b >>> 4 = b / 16 := by rw [Nat.shiftRight_eq_div_pow]
      have hb' : b / 16 < 2 ^ M := by rw [Nat.pow_add] at hb; lia
      rw [e]
      refine inner_loop fuel M (b / 16) (k + 4) (by lia) hb' (by lia) fun b' k' N' a1 a2 a3 a4 => ?_
      exact q b' k' N' a1 a2 (by lia) (by rw [a4, sq_skip h])
    · rw [if_neg (by simp; lia)]
      exact q b k N h0 hb (Nat.le_refl _) rfl
theorem outer_loop {Q : Flw → Vars → AH → Prop} {l : Nat} : ∀ (fuel N b k : Nat) (acc : List Nat) (H : AH), b < 2 ^ N → N < fuel → N ≤ 64 → acc.length + N ≤ 200 → H[l]? = some (.list (acc.map fun i => .int (i : Nat))) →
    (∀ k' : Nat, Q .next [some (.int 0), some (.loc l), some (.int k')] (H.set l (.list ((acc ++ sq N b k).map fun i => .int (i : Nat))))) →
    wpW n (.var 0) sqBody fuel [some (.int b), some (.loc l), some (.int k)] H Q
  | 0, _, _, _, _, _, _, h, _, _, _, _ => absurd h (Nat.not_lt_zero _)
  | fuel + 1, N, b, k, acc, H, hb, hf, hN, ha, hl, q => by
    refine wpW_succ ?_
    simp only [z14, z1q, z1r, z1d, z0p, z1a, z15, z1b, z0a, z09, z1f, z1e, z0o, z0u, z0v, z0s, z0r, z0q, z16, z0l, z17, z18, z1o, z1p, z0t, z0g, z0f, z0d, z0c, z0b, z0e, z0z, z0y, z0x, z0w, z10, z19, z1s, z0h, z0j, z0i, z0k, z1c, z1i, z1j, z1l, z1k, z1m, z1g, z0m, z0n, z07, z06, z05, z04, z08, z11, z1n, z12, z13, z1h, z1t, z3u, z3x, z1x, z1y, z3h, z3i, z3r, z3s, z3j, z3k, z3m, z3o, z3q, z3t, z3n, z2p, z2s, z37, z2k, z24, z25, z30, z2t, z31, z2f, z32, z2e, z2d, z3g, z3f, z2m, z2n, z2u, z2j, z2x, z35, z2l, z3a, z38, z2i, z2q, z2y, z36, z2o, z40, z41, z3y, z45, z42, z43, z3b, z3c, z47, z1w, z3d, z46, yy0, yy1, yy2, yy3, yy4, yy5, z00, z02, z01, z03, z1v, z1u, z1z, z22, z20, z21, z2a, z28, z29, z27, z26, z2b, theGlobs, yy8, yy9, yy6, ne_eq]
    by_cases h0 : b = 0
    · subst h0
      rw [if_neg (by simp)]
      have := q k
      rw [sq_zero, List.append_nil] at this
      have e : H.set l (.list (acc.map fun i => .int (i : Nat))) = H := by
        obtain ⟨h1, h2⟩ := List.getElem?_eq_some_iff.mp hl
        rw [← h2, List.set_getElem_self]
      rw [e] at this
      exact this
    · rw [if_pos (by lia)]
      simp only [sqBody, z3u, z3t]
      refine inner_loop 200 N b k (by lia) hb (by lia) fun b' k' N' a1 a2 a3 a4 => ?_
      simp only [z14, z1q, z1r, z1d, z0p, z1a, z15, z1b, z0a, z09, z1f, z1e, z0o, z0u, z0v, z0s, z0r, z0q, z16, z0l, z17, z18, z1o, z1p, z0t, z0g, z0f, z0d, z0c, z0b, z0e, z0z, z0y, z0x, z0w, z10, z19, z1s, z0h, z0j, z0i, z0k, z1c, z1i, z1j, z1l, z1k, z1m, z1g, z0m, z0n, z07, z06, z05, z04, z08, z11, z1n, z12, z13, z1h, z1t, z3u, z3x, z1x, z1y, z3h, z3i, z3r, z3s, z3j, z3k, z3m, z3o, z3q, z3t, z3n, z2p, z2s, z37, z2k, z24, z25, z30, z2t, z31, z2f, z32, z2e, z2d, z3g, z3f, z2m, z2n, z2u, z2j, z2x, z35, z2l, z3a, z38, z2i, z2q, z2y, z36, z2o, z40, z41, z3y, z45, z42, z43, z3b, z3c, z47, z1w, z3d, z46, yy0, yy1, yy2, yy3, yy4, yy5, z00, z02, z01, z03, z1v, z1u, z1z, z22, z20, z21, z2a, z28, z29, z27, z26, z2b, theGlobs, yy8, yy9, yy6, ne_eq, band1]
      obtain ⟨M, rfl⟩ : ∃ M, N' = M + 1 := by
        cases N' with
        | zero => rw [Nat.pow_zero] at a2; lia
        | succ M => exact ⟨M, rfl⟩
      have hM : b' / 2 < 2 ^ M := by rw [Nat.pow_succ] at a2; lia
      have e1 : b' >>> 1 = b' / 2 := by rw [Nat.shiftRight_eq_div_pow, Nat.pow_one]
      by_cases h1 : b' % 2 = 1
      · rw [if_pos (by rw [h1]; decide)]
        simp only [wpL_loc hl, List.length_map, wb_shr1, z14, z1q, z1r, z1d, z0p, z1a, z15, z1b, z0a, z09, z1f, z1e, z0o, z0u, z0v, z0s, z0r, z0q, z16, z0l, z17, z18, z1o, z1p, z0t, z0g, z0f, z0d, z0c, z0b, z0e, z0z, z0y, z0x, z0w, z10, z19, z1s, z0h, z0j, z0i, z0k, z1c, z1i, z1j, z1l, z1k, z1m, z1g, z0m, z0n, z07, z06, z05, z04, z08, z11, z1n, z12, z13, z1h, z1t, z3u, z3x, z1x, z1y, z3h, z3i, z3r, z3s, z3j, z3k, z3m, z3o, z3q, z3t, z3n, z2p, z2s, z37, z2k, z24, z25, z30, z2t, z31, z2f, z32, z2e, z2d, z3g, z3f, z2m, z2n, z2u, z2j, z2x, z35, z2l, z3a, z38, z2i, z2q, z2y, z36, z2o, z40, z41, z3y, z45, z42, z43, z3b, z3c, z47, z1w, z3d, z46, yy0, yy1, yy2, yy3, yy4, yy5, z00, z02, z01, z03, z1v, z1u, z1z, z22, z20, z21, z2a, z28, z29, z27, z26, z2b, theGlobs, yy8, yy9, yy6, ne_eq, e1]
        refine ⟨by lia, ?_⟩
        refine outer_loop fuel M (b' / 2) (k' + 1) (acc ++ [k']) _ hM (by lia) (by lia) (by rw [List.length_append, List.length_singleton]; lia) ?_ fun k'' => ?_
        · rw [List.getElem?_set_self (List.getElem?_eq_some_iff.mp hl).1]; simp
        · have := q k''
          rw [← a4, sq, if_pos h1] at this
          rw [List.set_set, List.append_assoc]
          exact this
      · rw [if_neg (by simp; lia)]
        simp only [wb_shr1, z14, z1q, z1r, z1d, z0p, z1a, z15, z1b, z0a, z09, z1f, z1e, z0o, z0u, z0v, z0s, z0r, z0q, z16, z0l, z17, z18, z1o, z1p, z0t, z0g, z0f, z0d, z0c, z0b, z0e, z0z, z0y, z0x, z0w, z10, z19, z1s, z0h, z0j, z0i, z0k, z1c, z1i, z1j, z1l, z1k, z1m, z1g, z0m, z0n, z07, z06, z05, z04, z08, z11, z1n, z12, z13, z1h, z1t, z3u, z3x, z1x, z1y, z3h, z3i, z3r, z3s, z3j, z3k, z3m, z3o, z3q, z3t, z3n, z2p, z2s, z37, z2k, z24, z25, z30, z2t, z31, z2f, z32, z2e, z2d, z3g, z3f, z2m, z2n, z2u, z2j, z2x, z35, z2l, z3a, z38, z2i, z2q, z2y, z36, z2o, z40, z41, z3y, z45, z42, z43, z3b, z3c, z47, z1w, z3d, z46, yy0, yy1, yy2, yy3, yy4, yy5, z00, z02, z01, z03, z1v, z1u, z1z, z22, z20, z21, z2a, z28, z29, z27, z26, z2b, theGlobs, yy8, yy9, yy6, ne_eq, e1]
        refine outer_loop fuel M (b' / 2) (k' + 1) acc H hM (by lia) (by lia) (by lia) hl fun k'' => ?_
        have := q k''
        rw [← a4, sq, if_neg h1] at this
        exact this
theorem ev_squares_of {b : Nat} (hb : b < 2 ^ 64) : run (n+1) 1 [.int b] H = some (.lst ((sq 64 b 0).map fun i => .int (i : Nat)), H ++ [.dead]) := by
  refine wpO_eq (wp_run (d := d_squares_of) rfl rfl ?_)
  show wpSs n d_squares_of.body [some (.int b), none, none] H _
  simp only [d_squares_of, z14, z1q, z1r, z1d, z0p, z1a, z15, z1b, z0a, z09, z1f, z1e, z0o, z0u, z0v, z0s, z0r, z0q, z16, z0l, z17, z18, z1o, z1p, z0t, z0g, z0f, z0d, z0c, z0b, z0e, z0z, z0y, z0x, z0w, z10, z19, z1s, z0h, z0j, z0i, z0k, z1c, z1i, z1j, z1l, z1k, z1m, z1g, z0m, z0n, z07, z06, z05, z04, z08, z11, z1n, z12, z13, z1h, z1t, z3u, z3x, z1x, z1y, z3h, z3i, z3r, z3s, z3j, z3k, z3m, z3o, z3q, z3t, z3n, z2p, z2s, z37, z2k, z24, z25, z30, z2t, z31, z2f, z32, z2e, z2d, z3g, z3f, z2m, z2n, z2u, z2j, z2x, z35, z2l, z3a, z38, z2i, z2q, z2y, z36, z2o, z40, z41, z3y, z45, z42, z43, z3b, z3c, z47, z1w, z3d, z46, yy0, yy1, yy2, yy3, yy4, yy5, z00, z02, z01, z03, z1v, z1u, z1z, z22, z20, z21, z2a, z28, z29, z27, z26, z2b, theGlobs, yy8, yy9, yy6, ne_eq]
  refine ⟨by lia, by lia, by lia, ?_⟩
  refine outer_loop 200 64 b 0 [] _ hb (by lia) (by lia) (by simp) ?_ fun k' => ?_
  · simp
  · simp only [z14, z1q, z1r, z1d, z0p, z1a, z15, z1b, z0a, z09, z1f, z1e, z0o, z0u, z0v, z0s, z0r, z0q, z16, z0l, z17, z18, z1o, z1p, z0t, z0g, z0f, z0d, z0c, z0b, z0e, z0z, z0y, z0x, z0w, z10, z19, z1s, z0h, z0j, z0i, z0k, z1c, z1i, z1j, z1l, z1k, z1m, z1g, z0m, z0n, z07, z06, z05, z04, z08, z11, z1n, z12, z13, z1h, z1t, z3u, z3x, z1x, z1y, z3h, z3i, z3r, z3s, z3j, z3k, z3m, z3o, z3q, z3t, z3n, z2p, z2s, z37, z2k, z24, z25, z30, z2t, z31, z2f, z32, z2e, z2d, z3g, z3f, z2m, z2n, z2u, z2j, z2x, z35, z2l, z3a, z38, z2i, z2q, z2y, z36, z2o, z40, z41, z3y, z45, z42, z43, z3b, z3c, z47, z1w, z3d, z46, yy0, yy1, yy2, yy3, yy4, yy5, z00, z02, z01, z03, z1v, z1u, z1z, z22, z20, z21, z2a, z28, z29, z27, z26, z2b, theGlobs, yy8, yy9, yy6, ne_eq, callK, freeze]
    simp
end
end Mine
end

section
set_option linter.unusedSimpArgs false
set_option maxRecDepth 100000
namespace Mine
open PySem.Builtin

theorem bit_and (s x : Nat) : decide (¬ ((((1 <<< s) &&& x : Nat) : Int) = 0)) = x.testBit s := by
  have : (1 <<< s) &&& x = if x.testBit s then 1 <<< s else 0 := by
    apply Nat.eq_of_testBit_eq; intro i
    rw [Nat.testBit_and, Nat.one_shiftLeft, Nat.testBit_two_pow]
    split
    · rw [Nat.testBit_two_pow]
      by_cases h : s = i
      · subst h; simp_all
      · simp [h]
    · rw [Nat.zero_testBit]
      by_cases h : s = i
      · subst h; simp_all
      · simp [h]
  rw [this, Nat.one_shiftLeft]
  have := Nat.two_pow_pos s
  by_cases h : x.testBit s = true
  · rw [if_pos h, h, yy6]; lia
  · rw [if_neg h, Bool.not_eq_true] at *; rw [h]; rfl
theorem sq_mem {N b k s : Nat} (h : s ∈ sq N b k) : k ≤ s ∧ s < k + N ∧ b.testBit (s - k) = true := by
  rw [sq_range] at h
  obtain ⟨i, h1, rfl⟩ := List.mem_map.mp h
  obtain ⟨h2, h3⟩ := List.mem_filter.mp h1
  rw [List.mem_range] at h2
  refine ⟨by lia, by lia, ?_⟩
  rw [Nat.add_sub_cancel]; exact h3
theorem bit_lt {N b s : Nat} (hb : b < 2 ^ N) (h : b.testBit s = true) : s < N := by
  rcases Nat.lt_or_ge s N with h1 | h1
  · exact h1
  · rw [Nat.testBit_lt_two_pow (Nat.lt_of_lt_of_le hb (Nat.pow_le_pow_right (by decide) h1))] at h; cases h
theorem sq_lt {N M b s : Nat} (hb : b < 2 ^ N) (h : s ∈ sq M b 0) : s < N := bit_lt hb (by simpa using (sq_mem h).2.2)
theorem one_shl_lt {s N : Nat} (h : s < N) : 1 <<< s < 2 ^ N := by
  rw [Nat.one_shiftLeft]; exact Nat.pow_lt_pow_right (by decide) h

noncomputable def helps (F R own foe : Nat) (sd : Int) (s : Nat) : Bool :=
  decide (pc (foe &&& front F R (nb F R (1 <<< s)) sd) ≤ pc (own &&& fill F R (nb F R (1 <<< s)) (1 - sd)))
noncomputable def candStep (F R own foe : Nat) (sd : Int) (f s : Nat) : Nat := if helps F R own foe sd s = true then f ||| (1 <<< s) else f
noncomputable def cand (F R own foe : Nat) (sd : Int) : Nat := (sq 64 own 0).foldl (candStep F R own foe sd) 0
noncomputable def pints (l : List Nat) : List PV := l.map fun i => .int (i : Nat)

noncomputable abbrev candBody : Sts := .cons (.assign 6 (.bin .shl (.const (.int 1)) (.var 5)))
 (.cons (.assign 7 (.call (.user 8) (.cons (.var 0) (.cons (.var 6) .nil))))
 (.cons (.assign 8 (.call (.user 0) (.cons (.bin .band (.var 1) (.call (.user 9) (.cons (.var 0) (.cons (.var 7) (.cons (.bin .sub (.const (.int 1)) (.var 3)) .nil))))) .nil)))
 (.cons (.assign 9 (.call (.user 0) (.cons (.bin .band (.var 2) (.call (.user 10) (.cons (.var 0) (.cons (.var 7) (.cons (.var 3) .nil))))) .nil)))
 (.cons (.ite (.cmp .ge (.var 8) (.var 9)) (.cons (.aug 4 .bor (.var 6)) .nil) .nil)
 .nil))))
section
variable {n l F R own foe : Nat} {sd : Int} {H : AH}
theorem cand_loop (g : Geo H l F R) (S : Shape F R) (h1 : own < 2 ^ (F * R)) (h2 : foe < 2 ^ (F * R)) {Q : Flw → Vars → AH → Prop} {vs0 : List PV} :
    ∀ (r : List Nat) (f : Nat) (a b c d e : Option PV), (∀ s ∈ r, s < F * R) →
    (∀ a b c d e, Q .next [some (.loc l), some (.int own), some (.int foe), some (.int sd), some (.int (r.foldl (candStep F R own foe sd) f : Nat)), a, b, c, d, e] H) →
    wpF (n+2) (.lst vs0) vs0 [5] candBody (pints r) [some (.loc l), some (.int own), some (.int foe), some (.int sd), some (.int f), a, b, c, d, e] H Q
  | [], f, a, b, c, d, e, hr, q => by
    rw [pints, List.map_nil]; refine wpF_nil ?_
    exact ⟨rfl, q ..⟩
  | s :: r, f, a, b, c, d, e, hr, q => by
    have hs := hr s List.mem_cons_self
    have hsz := S.sz
    have k1 := one_shl_lt hs
    have k2 : own &&& fill F R (nb F R (1 <<< s)) (1 - sd) < 2 ^ 64 := Nat.lt_of_le_of_lt Nat.and_le_left (S.lt64 h1)
    have k3 : foe &&& front F R (nb F R (1 <<< s)) sd < 2 ^ 64 := Nat.lt_of_le_of_lt Nat.and_le_left (S.lt64 h2)
    have nx := fun f a b c d e => cand_loop (vs0 := vs0) (Q := Q) g S h1 h2 r f a b c d e (fun s hs => hr s (List.mem_cons_of_mem _ hs))
    rw [pints, List.map_cons]; refine wpF_cons ?_
    refine ⟨rfl, ?_⟩
    simp only [bindT_one, og_t, decide_true, z14, z1q, z1r, z1d, z0p, z1a, z15, z1b, z0a, z09, z1f, z1e, z0o, z0u, z0v, z0s, z0r, z0q, z16, z0l, z17, z18, z1o, z1p, z0t, z0g, z0f, z0d, z0c, z0b, z0e, z0z, z0y, z0x, z0w, z10, z19, z1s, z0h, z0j, z0i, z0k, z1c, z1i, z1j, z1l, z1k, z1m, z1g, z0m, z0n, z07, z06, z05, z04, z08, z11, z1n, z12, z13, z1h, z1t, z3u, z3x, z1x, z1y, z3h, z3i, z3r, z3s, z3j, z3k, z3m, z3o, z3q, z3t, z3n, z2p, z2s, z37, z2k, z24, z25, z30, z2t, z31, z2f, z32, z2e, z2d, z3g, z3f, z2m, z2n, z2u, z2j, z2x, z35, z2l, z3a, z38, z2i, z2q, z2y, z36, z2o, z40, z41, z3y, z45, z42, z43, z3b, z3c, z47, z1w, z3d, z46, yy0, yy1, yy2, yy3, yy4, yy5, z00, z02, z01, z03, z1v, z1u, z1z, z22, z20, z21, z2a, z28, z29, z27, z26, z2b, theGlobs, yy8, yy9, yy6, ne_eq, yy7, Nat.reduceAdd, Nat.reduceLT, if_true, candBody, wb_one_shl (show s ≤ 1000000 by lia), ev_neighbours g S k1, ev_fill_up g S (nb_lt (F := F) (R := R) (b := 1 <<< s)), ev_front g S (nb_lt (F := F) (R := R) (b := 1 <<< s)), bandN, borN, ev_count_bits k2, ev_count_bits k3]
    by_cases h : pc (foe &&& front F R (nb F R (1 <<< s)) sd) ≤ pc (own &&& fill F R (nb F R (1 <<< s)) (1 - sd))
    · rw [if_pos (by lia)]
      refine nx _ _ _ _ _ _ fun a b c d e => ?_
      have := q a b c d e
      rw [List.foldl_cons, candStep, helps, decide_eq_true h, if_pos rfl] at this
      exact this
    · rw [if_neg (by lia)]
      refine nx _ _ _ _ _ _ fun a b c d e => ?_
      have := q a b c d e
      rw [List.foldl_cons, candStep, helps, decide_eq_false h, if_neg (by decide)] at this
      exact this
theorem ev_candidates (g : Geo H l F R) (S : Shape F R) (h1 : own < 2 ^ (F * R)) (h2 : foe < 2 ^ (F * R)) : run (n+3) 13 [.loc l, .int own, .int foe, .int sd] H = some (.int (cand F R own foe sd), H ++ [.dead]) := by
  refine wpO_eq (wp_run (d := d_candidates_of) rfl rfl ?_)
  show wpSs (n+2) d_candidates_of.body [some (.loc l), some (.int own), some (.int foe), some (.int sd), none, none, none, none, none, none] H _
  have hl : (sq 64 own 0).length ≤ 1000 := Nat.le_trans (sq_len ..) (by decide)
  simp only [d_candidates_of, z14, z1q, z1r, z1d, z0p, z1a, z15, z1b, z0a, z09, z1f, z1e, z0o, z0u, z0v, z0s, z0r, z0q, z16, z0l, z17, z18, z1o, z1p, z0t, z0g, z0f, z0d, z0c, z0b, z0e, z0z, z0y, z0x, z0w, z10, z19, z1s, z0h, z0j, z0i, z0k, z1c, z1i, z1j, z1l, z1k, z1m, z1g, z0m, z0n, z07, z06, z05, z04, z08, z11, z1n, z12, z13, z1h, z1t, z3u, z3x, z1x, z1y, z3h, z3i, z3r, z3s, z3j, z3k, z3m, z3o, z3q, z3t, z3n, z2p, z2s, z37, z2k, z24, z25, z30, z2t, z31, z2f, z32, z2e, z2d, z3g, z3f, z2m, z2n, z2u, z2j, z2x, z35, z2l, z3a, z38, z2i, z2q, z2y, z36, z2o, z40, z41, z3y, z45, z42, z43, z3b, z3c, z47, z1w, z3d, z46, yy0, yy1, yy2, yy3, yy4, yy5, z00, z02, z01, z03, z1v, z1u, z1z, z22, z20, z21, z2a, z28, z29, z27, z26, z2b, theGlobs, yy8, yy9, yy6, ne_eq, yy7, Nat.reduceAdd, Nat.reduceLT, if_true, ev_squares_of (S.lt64 h1), source, items, List.length_map]
  refine ⟨hl, ?_⟩
  refine cand_loop (g.pre (List.prefix_append _ _)) S h1 h2 (sq 64 own 0) 0 _ _ _ _ _ (fun s hs => sq_lt h1 hs) fun a b c d e => ?_
  simp only [z14, z1q, z1r, z1d, z0p, z1a, z15, z1b, z0a, z09, z1f, z1e, z0o, z0u, z0v, z0s, z0r, z0q, z16, z0l, z17, z18, z1o, z1p, z0t, z0g, z0f, z0d, z0c, z0b, z0e, z0z, z0y, z0x, z0w, z10, z19, z1s, z0h, z0j, z0i, z0k, z1c, z1i, z1j, z1l, z1k, z1m, z1g, z0m, z0n, z07, z06, z05, z04, z08, z11, z1n, z12, z13, z1h, z1t, z3u, z3x, z1x, z1y, z3h, z3i, z3r, z3s, z3j, z3k, z3m, z3o, z3q, z3t, z3n, z2p, z2s, z37, z2k, z24, z25, z30, z2t, z31, z2f, z32, z2e, z2d, z3g, z3f, z2m, z2n, z2u, z2j, z2x, z35, z2l, z3a, z38, z2i, z2q, z2y, z36, z2o, z40, z41, z3y, z45, z42, z43, z3b, z3c, z47, z1w, z3d, z46, yy0, yy1, yy2, yy3, yy4, yy5, z00, z02, z01, z03, z1v, z1u, z1z, z22, z20, z21, z2a, z28, z29, z27, z26, z2b, theGlobs, yy8, yy9, yy6, ne_eq, yy7, Nat.reduceAdd, Nat.reduceLT, if_true, cand]

structure Fx where
  own : Nat
  attacks : Nat
  span : Nat
  isolated : Nat
  doubled : Nat
  backward : Nat
  connected : Nat
  opposed : Nat
  passed : Nat
  candidates : Nat
noncomputable def Fx.fs (x : Fx) : List (Nat × PV) := [(0, .int x.own), (1, .int x.attacks), (2, .int x.span), (3, .int x.isolated), (4, .int x.doubled), (5, .int x.backward), (6, .int x.connected), (7, .int x.opposed), (8, .int x.passed), (9, .int x.candidates)]
noncomputable def factsOf (F R own foe : Nat) (sd : Int) : Fx :=
  let beside := nb F R own
  let isolated := andn own (fill F R beside 0 ||| fill F R beside 1)
  let doubled := own &&& front F R own (1 - sd)
  let opposed := own &&& front F R foe (1 - sd)
  let passed := andn (andn (andn own doubled) opposed) (front F R (nb F R foe) (1 - sd))
  { own := own
    attacks := up F R beside sd
    span := front F R beside sd
    isolated := isolated
    doubled := doubled
    backward := andn (andn own (fill F R beside sd)) isolated &&& up F R (foe ||| up F R (nb F R foe) (1 - sd)) (1 - sd)
    connected := own &&& (beside ||| up F R beside sd)
    opposed := opposed
    passed := passed
    candidates := cand F R own foe sd &&& andn (andn (andn own doubled) opposed) passed }
theorem vset_mid {H E : AH} {c k : Nat} {fs : List (Nat × PV)} {v : PV} (h : fs.length < 100) : vSetAttr (H ++ .inst c fs :: E) (.loc H.length) k v = some (H ++ .inst c (putF k v fs) :: E) := by
  simp [vSetAttr, h]
theorem vget_mid {H E : AH} {c k : Nat} {fs : List (Nat × PV)} : vGetAttr (H ++ .inst c fs :: E) (.loc H.length) k = getF k fs := by
  simp [vGetAttr]
theorem ev_PawnFacts {E : AH} : run (n+1) 5 [.loc H.length, .int own] (H ++ .inst 0 [] :: E) = some (.none, H ++ .inst 0 (Fx.fs ⟨own, 0, 0, 0, 0, 0, 0, 0, 0, 0⟩) :: E) := by
  refine wpO_eq (wp_run (d := d_PawnFacts_init) rfl rfl ?_)
  show wpSs n d_PawnFacts_init.body [some (.loc H.length), some (.int own)] (H ++ .inst 0 [] :: E) _
  have e : ∀ (k : Nat) (v : PV) (fs : List (Nat × PV)), fs.length < 100 → vSetAttr (H ++ .inst 0 fs :: E) (.loc H.length) k v = some (H ++ .inst 0 (putF k v fs) :: E) := fun k v fs h => vset_mid h
  simp only [d_PawnFacts_init, z14, z1q, z1r, z1d, z0p, z1a, z15, z1b, z0a, z09, z1f, z1e, z0o, z0u, z0v, z0s, z0r, z0q, z16, z0l, z17, z18, z1o, z1p, z0t, z0g, z0f, z0d, z0c, z0b, z0e, z0z, z0y, z0x, z0w, z10, z19, z1s, z0h, z0j, z0i, z0k, z1c, z1i, z1j, z1l, z1k, z1m, z1g, z0m, z0n, z07, z06, z05, z04, z08, z11, z1n, z12, z13, z1h, z1t, z3u, z3x, z1x, z1y, z3h, z3i, z3r, z3s, z3j, z3k, z3m, z3o, z3q, z3t, z3n, z2p, z2s, z37, z2k, z24, z25, z30, z2t, z31, z2f, z32, z2e, z2d, z3g, z3f, z2m, z2n, z2u, z2j, z2x, z35, z2l, z3a, z38, z2i, z2q, z2y, z36, z2o, z40, z41, z3y, z45, z42, z43, z3b, z3c, z47, z1w, z3d, z46, yy0, yy1, yy2, yy3, yy4, yy5, z00, z02, z01, z03, z1v, z1u, z1z, z22, z20, z21, z2a, z28, z29, z27, z26, z2b, theGlobs, yy8, yy9, yy6, ne_eq, yy7, Nat.reduceAdd, Nat.reduceLT, if_true]
  repeat (rw [e _ _ _ (by simp [putF]), z47]; simp only [z14, z1q, z1r, z1d, z0p, z1a, z15, z1b, z0a, z09, z1f, z1e, z0o, z0u, z0v, z0s, z0r, z0q, z16, z0l, z17, z18, z1o, z1p, z0t, z0g, z0f, z0d, z0c, z0b, z0e, z0z, z0y, z0x, z0w, z10, z19, z1s, z0h, z0j, z0i, z0k, z1c, z1i, z1j, z1l, z1k, z1m, z1g, z0m, z0n, z07, z06, z05, z04, z08, z11, z1n, z12, z13, z1h, z1t, z3u, z3x, z1x, z1y, z3h, z3i, z3r, z3s, z3j, z3k, z3m, z3o, z3q, z3t, z3n, z2p, z2s, z37, z2k, z24, z25, z30, z2t, z31, z2f, z32, z2e, z2d, z3g, z3f, z2m, z2n, z2u, z2j, z2x, z35, z2l, z3a, z38, z2i, z2q, z2y, z36, z2o, z40, z41, z3y, z45, z42, z43, z3b, z3c, z47, z1w, z3d, z46, yy0, yy1, yy2, yy3, yy4, yy5, z00, z02, z01, z03, z1v, z1u, z1z, z22, z20, z21, z2a, z28, z29, z27, z26, z2b, theGlobs, yy8, yy9, yy6, ne_eq, yy7, Nat.reduceAdd, Nat.reduceLT, if_true])
  try rfl
theorem vs1 {E : AH} {x : Fx} {v : Nat} : vSetAttr (H ++ .inst 0 x.fs :: E) (.loc H.length) 1 (.int v) = some (H ++ .inst 0 (Fx.fs {x with attacks := v}) :: E) := vset_mid (by simp [Fx.fs])
theorem vs2 {E : AH} {x : Fx} {v : Nat} : vSetAttr (H ++ .inst 0 x.fs :: E) (.loc H.length) 2 (.int v) = some (H ++ .inst 0 (Fx.fs {x with span := v}) :: E) := vset_mid (by simp [Fx.fs])
theorem vs3 {E : AH} {x : Fx} {v : Nat} : vSetAttr (H ++ .inst 0 x.fs :: E) (.loc H.length) 3 (.int v) = some (H ++ .inst 0 (Fx.fs {x with isolated := v}) :: E) := vset_mid (by simp [Fx.fs])
theorem vs4 {E : AH} {x : Fx} {v : Nat} : vSetAttr (H ++ .inst 0 x.fs :: E) (.loc H.length) 4 (.int v) = some (H ++ .inst 0 (Fx.fs {x with doubled := v}) :: E) := vset_mid (by simp [Fx.fs])
theorem vs5 {E : AH} {x : Fx} {v : Nat} : vSetAttr (H ++ .inst 0 x.fs :: E) (.loc H.length) 5 (.int v) = some (H ++ .inst 0 (Fx.fs {x with backward := v}) :: E) := vset_mid (by simp [Fx.fs])
theorem vs6 {E : AH} {x : Fx} {v : Nat} : vSetAttr (H ++ .inst 0 x.fs :: E) (.loc H.length) 6 (.int v) = some (H ++ .inst 0 (Fx.fs {x with connected := v}) :: E) := vset_mid (by simp [Fx.fs])
theorem vs7 {E : AH} {x : Fx} {v : Nat} : vSetAttr (H ++ .inst 0 x.fs :: E) (.loc H.length) 7 (.int v) = some (H ++ .inst 0 (Fx.fs {x with opposed := v}) :: E) := vset_mid (by simp [Fx.fs])
theorem vs8 {E : AH} {x : Fx} {v : Nat} : vSetAttr (H ++ .inst 0 x.fs :: E) (.loc H.length) 8 (.int v) = some (H ++ .inst 0 (Fx.fs {x with passed := v}) :: E) := vset_mid (by simp [Fx.fs])
theorem vs9 {E : AH} {x : Fx} {v : Nat} : vSetAttr (H ++ .inst 0 x.fs :: E) (.loc H.length) 9 (.int v) = some (H ++ .inst 0 (Fx.fs {x with candidates := v}) :: E) := vset_mid (by simp [Fx.fs])
theorem vg {E : AH} {x : Fx} : vGetAttr (H ++ .inst 0 x.fs :: E) (.loc H.length) 0 = some (.int x.own) ∧ vGetAttr (H ++ .inst 0 x.fs :: E) (.loc H.length) 1 = some (.int x.attacks) ∧ vGetAttr (H ++ .inst 0 x.fs :: E) (.loc H.length) 2 = some (.int x.span) ∧ vGetAttr (H ++ .inst 0 x.fs :: E) (.loc H.length) 3 = some (.int x.isolated)
    ∧ vGetAttr (H ++ .inst 0 x.fs :: E) (.loc H.length) 4 = some (.int x.doubled) ∧ vGetAttr (H ++ .inst 0 x.fs :: E) (.loc H.length) 5 = some (.int x.backward) ∧ vGetAttr (H ++ .inst 0 x.fs :: E) (.loc H.length) 6 = some (.int x.connected) ∧ vGetAttr (H ++ .inst 0 x.fs :: E) (.loc H.length) 7 = some (.int x.opposed)
    ∧ vGetAttr (H ++ .inst 0 x.fs :: E) (.loc H.length) 8 = some (.int x.passed) ∧ vGetAttr (H ++ .inst 0 x.fs :: E) (.loc H.length) 9 = some (.int x.candidates) := by
  simp only [vget_mid]; exact ⟨rfl, rfl, rfl, rfl, rfl, rfl, rfl, rfl, rfl, rfl⟩
theorem callK_inst {E : AH} {c : Nat} {fs : List (Nat × PV)} {ρ : Vars} {Q : PV → AH → Prop} : callK H.length Q (.ret (.loc H.length)) ρ (H ++ .inst c fs :: E) = Q (.loc H.length) (H ++ .inst c fs :: E) := by
  simp [callK, freeze]
structure PosAt (H : AH) (p l kp : Nat) (s : Int → Nat) : Prop where
  geo : vGetAttr H (.loc p) 24 = some (.loc l)
  kinds : ∃ kd : Nat, vGetAttr H (.loc p) 27 = some (.loc kd) ∧ vGetItem H (.loc kd) (.int 1) = some (.int kp)
  sides : ∃ sl : Nat, vGetAttr H (.loc p) 28 = some (.loc sl) ∧ vGetItem H (.loc sl) (.int 0) = some (.int (s 0 : Nat)) ∧ vGetItem H (.loc sl) (.int 1) = some (.int (s 1 : Nat))
theorem PosAt.pre {H' : AH} {p kp : Nat} {s : Int → Nat} (g : PosAt H p l kp s) (h : H <+: H') : PosAt H' p l kp s := by
  obtain ⟨a, ⟨kd, b, c⟩, sl, d, e, f⟩ := g
  exact ⟨attr_pre h a, ⟨kd, attr_pre h b, item_pre h c⟩, sl, attr_pre h d, item_pre h e, item_pre h f⟩
theorem ev_pawns_of {p kp : Nat} {s : Int → Nat} (g : PosAt H p l kp s) (hs : sd = 0 ∨ sd = 1) : run (n+1) 6 [.loc p, .int sd] H = some (.int (kp &&& s sd : Nat), H) := by
  refine wpO_eq (wp_run (d := d_pawns_of) rfl rfl ?_)
  show wpSs n d_pawns_of.body [some (.loc p), some (.int sd)] H _
  obtain ⟨kd, b, c⟩ := g.kinds
  obtain ⟨sl, d, e, f⟩ := g.sides
  have e' : vGetItem H (.loc sl) (.int sd) = some (.int (s sd : Nat)) := by
    rcases hs with rfl | rfl
    · exact e
    · exact f
  simp only [d_pawns_of, z14, z1q, z1r, z1d, z0p, z1a, z15, z1b, z0a, z09, z1f, z1e, z0o, z0u, z0v, z0s, z0r, z0q, z16, z0l, z17, z18, z1o, z1p, z0t, z0g, z0f, z0d, z0c, z0b, z0e, z0z, z0y, z0x, z0w, z10, z19, z1s, z0h, z0j, z0i, z0k, z1c, z1i, z1j, z1l, z1k, z1m, z1g, z0m, z0n, z07, z06, z05, z04, z08, z11, z1n, z12, z13, z1h, z1t, z3u, z3x, z1x, z1y, z3h, z3i, z3r, z3s, z3j, z3k, z3m, z3o, z3q, z3t, z3n, z2p, z2s, z37, z2k, z24, z25, z30, z2t, z31, z2f, z32, z2e, z2d, z3g, z3f, z2m, z2n, z2u, z2j, z2x, z35, z2l, z3a, z38, z2i, z2q, z2y, z36, z2o, z40, z41, z3y, z45, z42, z43, z3b, z3c, z47, z1w, z3d, z46, yy0, yy1, yy2, yy3, yy4, yy5, z00, z02, z01, z03, z1v, z1u, z1z, z22, z20, z21, z2a, z28, z29, z27, z26, z2b, theGlobs, yy8, yy9, yy6, ne_eq, yy7, Nat.reduceAdd, Nat.reduceLT, if_true, b, c, d, e', bandN]
theorem ev_pawn_facts {p kp : Nat} {s : Int → Nat} (g : Geo H l F R) (S : Shape F R) (P : PosAt H p l kp s) (hs : sd = 0 ∨ sd = 1) (ho : kp &&& s sd = own) (hf : kp &&& s (1 - sd) = foe) (h1 : own < 2 ^ (F * R)) (h2 : foe < 2 ^ (F * R)) :
    run (n+4) 14 [.loc p, .int sd] H = some (.loc H.length, H ++ [.inst 0 (factsOf F R own foe sd).fs, .dead]) := by
  refine wpO_eq (wp_run (d := d_pawn_facts) rfl rfl ?_)
  show wpSs (n+3) d_pawn_facts.body [some (.loc p), some (.int sd), none, none, none, none, none, none, none, none] H _
  have hs' : 1 - sd = 0 ∨ 1 - sd = 1 := by lia
  have hc : ∀ H : AH, callB (run (n+3)) inits (.cls 0) [.int own] H = some (.loc H.length, H ++ .inst 0 (Fx.fs ⟨own, 0, 0, 0, 0, 0, 0, 0, 0, 0⟩) :: []) := fun H => by
    show ob (run (n+3) 5 [.loc H.length, .int own] (H ++ .inst 0 [] :: [])) _ = _
    rw [ev_PawnFacts]; rfl
  have G : ∀ x : Fx, Geo (H ++ .inst 0 x.fs :: []) l F R := fun x => g.pre (List.prefix_append _ _)
  have b0 : nb F R own < 2 ^ (F * R) := nb_lt
  have b1 : nb F R foe < 2 ^ (F * R) := nb_lt
  have b2 : (foe ||| up F R (nb F R foe) (1 - sd)) < 2 ^ (F * R) := Nat.or_lt_two_pow h2 (up_lt b1)
  have e1 := fun x => ev_shift_up (n := n+2) (sd := sd) (G x) S b0
  have e2 := fun x => ev_front (n := n+1) (sd := sd) (G x) S b0
  have e3 := fun x => ev_fill_up (n := n+2) (sd := 0) (G x) S b0
  have e4 := fun x => ev_fill_up (n := n+2) (sd := 1) (G x) S b0
  have e5 := fun x => ev_front (n := n+1) (sd := 1 - sd) (G x) S h1
  have e6 := fun x => ev_fill_up (n := n+2) (sd := sd) (G x) S b0
  have e7 := fun x => ev_pawn_attacks (n := n+1) (sd := 1 - sd) (G x) S h2
  have e8 := fun x => ev_shift_up (n := n+2) (sd := 1 - sd) (G x) S b2
  have e9 := fun x => ev_front (n := n+1) (sd := 1 - sd) (G x) S h2
  have e10 := fun x => ev_attack_span (n := n) (sd := 1 - sd) (G x) S h2
  have e11 := fun x => ev_candidates (n := n) (sd := sd) (G x) S h1 h2
  simp only [d_pawn_facts, z14, z1q, z1r, z1d, z0p, z1a, z15, z1b, z0a, z09, z1f, z1e, z0o, z0u, z0v, z0s, z0r, z0q, z16, z0l, z17, z18, z1o, z1p, z0t, z0g, z0f, z0d, z0c, z0b, z0e, z0z, z0y, z0x, z0w, z10, z19, z1s, z0h, z0j, z0i, z0k, z1c, z1i, z1j, z1l, z1k, z1m, z1g, z0m, z0n, z07, z06, z05, z04, z08, z11, z1n, z12, z13, z1h, z1t, z3u, z3x, z1x, z1y, z3h, z3i, z3r, z3s, z3j, z3k, z3m, z3o, z3q, z3t, z3n, z2p, z2s, z37, z2k, z24, z25, z30, z2t, z31, z2f, z32, z2e, z2d, z3g, z3f, z2m, z2n, z2u, z2j, z2x, z35, z2l, z3a, z38, z2i, z2q, z2y, z36, z2o, z40, z41, z3y, z45, z42, z43, z3b, z3c, z47, z1w, z3d, z46, yy0, yy1, yy2, yy3, yy4, yy5, z00, z02, z01, z03, z1v, z1u, z1z, z22, z20, z21, z2a, z28, z29, z27, z26, z2b, theGlobs, yy8, yy9, yy6, ne_eq, yy7, Nat.reduceAdd, Nat.reduceLT, if_true, P.geo, ev_pawns_of P hs, ev_pawns_of P hs', ho, hf, ev_neighbours g S h1, hc, e1, e2, e3, e4, e5, e6, e7, e8, e9, e10, e11, vs1, vs2, vs3, vs4, vs5, vs6, vs7, vs8, vs9, vg, bandN, borN, bandnN, callK_inst, List.append_assoc, List.cons_append, List.nil_append]
  first | rfl | exact ⟨rfl, rfl⟩

theorem z2w {ρ : Vars} {c : Ex} {Q : PV → AH → Prop} : wpE n ρ (.ite c (.const (.int 1)) (.const (.int 0))) H Q = wpT n ρ c H fun b H1 => Q (.int (if b = true then 1 else 0)) H1 := by
  rw [z2u]; congr 1; funext b H1; cases b <;> simp [z2p, z16]
theorem z2v {ρ : Vars} {c : Ex} {Q : PV → AH → Prop} : wpE n ρ (.ite c (.const (.int 0)) (.const (.int 1))) H Q = wpT n ρ c H fun b H1 => Q (.int (if b = true then 0 else 1)) H1 := by
  rw [z2u]; congr 1; funext b H1; cases b <;> simp [z2p, z16]
structure FactsAt (H : AH) (fl : Nat) (x : Fx) : Prop where
  a0 : vGetAttr H (.loc fl) 0 = some (.int x.own)
  a3 : vGetAttr H (.loc fl) 3 = some (.int x.isolated)
  a4 : vGetAttr H (.loc fl) 4 = some (.int x.doubled)
  a5 : vGetAttr H (.loc fl) 5 = some (.int x.backward)
  a6 : vGetAttr H (.loc fl) 6 = some (.int x.connected)
  a7 : vGetAttr H (.loc fl) 7 = some (.int x.opposed)
  a8 : vGetAttr H (.loc fl) 8 = some (.int x.passed)
  a9 : vGetAttr H (.loc fl) 9 = some (.int x.candidates)
noncomputable def phal (F R : Nat) (x : Fx) (s : Nat) : Int := if (nb F R (1 <<< s) &&& x.own) = 0 then 0 else 1
noncomputable def oppd (x : Fx) (s : Nat) : Int := if x.opposed.testBit s = true then 1 else 0
noncomputable def cV (F R : Nat) (x : Fx) (sd : Int) (s : Nat) : Int := ((3 : Int) * rk F R sd s + (2 : Int)) * ((2 : Int) + phal F R x s - oppd x s) + (9 : Int) * ((pc (up F R (nb F R (1 <<< s)) (1 - sd) &&& x.own) : Nat) : Int)
noncomputable def cScore (F R : Nat) (x : Fx) (sd : Int) (s : Nat) : Int := divI (cV F R x sd s * (rk F R sd s - 2)) * 65536 + cV F R x sd s
theorem rk_range {F R : Nat} (_ : Shape F R) {sd : Int} {s : Nat} (h : s < F * R) : 0 ≤ rk F R sd s ∧ rk F R sd s ≤ R - 1 := by
  have : s / F < R := Nat.div_lt_of_lt_mul h
  have h0 : (0 : Int) ≤ ((s / F : Nat) : Int) := Int.natCast_nonneg _
  have h1 : ((s / F : Nat) : Int) < R := by exact_mod_cast this
  unfold rk; generalize ((s / F : Nat) : Int) = q at *
  split <;> lia
theorem cV_range {F R : Nat} (S : Shape F R) {x : Fx} {sd : Int} {s : Nat} (h : s < F * R) : 0 ≤ cV F R x sd s ∧ cV F R x sd s ≤ 1000 := by
  have h1 := rk_range (sd := sd) S h
  have h8 := S.r8
  have h2 : phal F R x s = 0 ∨ phal F R x s = 1 := by unfold phal; split <;> simp
  have h3 : oppd x s = 0 ∨ oppd x s = 1 := by unfold oppd; split <;> simp
  have h4 := sq_len 64 (up F R (nb F R (1 <<< s)) (1 - sd) &&& x.own) 0
  have h5 : pc (up F R (nb F R (1 <<< s)) (1 - sd) &&& x.own) ≤ 64 := h4
  unfold cV
  rcases h2 with e2 | e2 <;> rcases h3 with e3 | e3 <;> rw [e2, e3] <;> constructor <;> lia
theorem divI_range {a : Int} {M : Int} (h : -M ≤ a) (h' : a ≤ M) : -M ≤ divI a ∧ divI a ≤ M := by
  unfold divI; split
  · rw [Int.fdiv_eq_ediv_of_nonneg _ (by lia)]; lia
  · rw [Int.fdiv_eq_ediv_of_nonneg _ (by lia)]; lia
theorem small_of {a : Int} (h : -1000000 ≤ a) (h' : a ≤ 1000000) : small a = true := by
  unfold small big; rw [Bool.and_eq_true]; exact ⟨decide_eq_true (by lia), decide_eq_true (by lia)⟩
theorem ev_connected {x : Fx} {fl s : Nat} (g : Geo H l F R) (S : Shape F R) (f : FactsAt H fl x) (ho : x.own < 2 ^ (F * R)) (h : s < F * R) : run (n+2) 15 [.loc l, .loc fl, .int s, .int sd] H = some (.int (cScore F R x sd s), H) := by
  refine wpO_eq (wp_run (d := d_connected_score) rfl rfl ?_)
  show wpSs (n+1) d_connected_score.body [some (.loc l), some (.loc fl), some (.int s), some (.int sd), none, none, none, none, none, none, none] H _
  have hsz := S.sz
  have k1 := one_shl_lt h
  have b0 : nb F R (1 <<< s) < 2 ^ (F * R) := nb_lt
  have b1 : up F R (nb F R (1 <<< s)) (1 - sd) &&& x.own < 2 ^ 64 := Nat.lt_of_le_of_lt Nat.and_le_right (S.lt64 ho)
  have r1 := rk_range (sd := sd) S h
  have r8 := S.r8
  have c1 := cV_range (x := x) (sd := sd) S h
  have m1 : (small 3 || small (rk F R sd s)) = true := rfl
  have m2 : ∀ y : Int, (small (3 * rk F R sd s + 2) || small y) = true := fun y => by rw [small_of (by lia) (by lia)]; rfl
  have m3 : ∀ y : Int, (small 9 || small y) = true := fun y => rfl
  have m4 : (small (cV F R x sd s) || small (rk F R sd s - 2)) = true := by rw [small_of (by lia) (by lia)]; rfl
  have mb : -8000 ≤ cV F R x sd s * (rk F R sd s - 2) ∧ cV F R x sd s * (rk F R sd s - 2) ≤ 8000 := by
    have : rk F R sd s = 0 ∨ rk F R sd s = 1 ∨ rk F R sd s = 2 ∨ rk F R sd s = 3 ∨ rk F R sd s = 4 ∨ rk F R sd s = 5 ∨ rk F R sd s = 6 ∨ rk F R sd s = 7 := by lia
    rcases this with e | e | e | e | e | e | e | e <;> rw [e] <;> lia
  have md := divI_range (M := 8000) mb.1 mb.2
  have m5 : small (divI (cV F R x sd s * (rk F R sd s - 2))) = true := small_of (by lia) (by lia)
  have p1 : (if ¬ ((((nb F R (1 <<< s)) &&& x.own : Nat) : Int) = 0) then (1 : Int) else 0) = phal F R x s := by
    unfold phal
    by_cases q : (nb F R (1 <<< s) &&& x.own) = 0
    · rw [if_neg (by lia), if_pos q]
    · rw [if_pos (by lia), if_neg q]
  have p2 : (if x.opposed.testBit s = true then (1 : Int) else 0) = oppd x s := rfl
  have e0 : ((3 : Int) * rk F R sd s + (2 : Int)) * ((2 : Int) + phal F R x s - oppd x s) + (9 : Int) * ((pc (up F R (nb F R (1 <<< s)) (1 - sd) &&& x.own) : Nat) : Int) = cV F R x sd s := rfl
  simp only [d_connected_score, z14, z1q, z1r, z1d, z0p, z1a, z15, z1b, z0a, z09, z1f, z1e, z0o, z0u, z0v, z0s, z0r, z0q, z16, z0l, z17, z18, z1o, z1p, z0t, z0g, z0f, z0d, z0c, z0b, z0e, z0z, z0y, z0x, z0w, z10, z19, z1s, z0h, z0j, z0i, z0k, z1c, z1i, z1j, z1l, z1k, z1m, z1g, z0m, z0n, z07, z06, z05, z04, z08, z11, z1n, z12, z13, z1h, z1t, z3u, z3x, z1x, z1y, z3h, z3i, z3r, z3s, z3j, z3k, z3m, z3o, z3q, z3t, z3n, z2p, z2s, z37, z2k, z24, z25, z30, z2t, z31, z2f, z32, z2e, z2d, z3g, z3f, z2m, z2n, z2w, z2v, z2j, z2x, z35, z2l, z3a, z38, z2i, z2q, z2y, z36, z2o, z40, z41, z3y, z45, z42, z43, z3b, z3c, z47, z1w, z3d, z46, yy0, yy1, yy2, yy3, yy4, yy5, z00, z02, z01, z03, z1v, z1u, z1z, z22, z20, z21, z2a, z28, z29, z27, z26, z2b, theGlobs, yy8, yy9, yy6, ne_eq, yy7, Nat.reduceAdd, Nat.reduceLT, if_true, wb_one_shl (show s ≤ 1000000 by lia), ev_own_rank g S, ev_neighbours g S k1, f.a0, f.a7, bandN, bit_and, p1, p2, ev_shift_up g S b0, ev_count_bits b1, wb_mul, m1, m2, m3, ev_divide]
  rw [e0]
  simp only [m4, ev_make_score m5, z14, z1q, z1r, z1d, z0p, z1a, z15, z1b, z0a, z09, z1f, z1e, z0o, z0u, z0v, z0s, z0r, z0q, z16, z0l, z17, z18, z1o, z1p, z0t, z0g, z0f, z0d, z0c, z0b, z0e, z0z, z0y, z0x, z0w, z10, z19, z1s, z0h, z0j, z0i, z0k, z1c, z1i, z1j, z1l, z1k, z1m, z1g, z0m, z0n, z07, z06, z05, z04, z08, z11, z1n, z12, z13, z1h, z1t, z3u, z3x, z1x, z1y, z3h, z3i, z3r, z3s, z3j, z3k, z3m, z3o, z3q, z3t, z3n, z2p, z2s, z37, z2k, z24, z25, z30, z2t, z31, z2f, z32, z2e, z2d, z3g, z3f, z2m, z2n, z2u, z2j, z2x, z35, z2l, z3a, z38, z2i, z2q, z2y, z36, z2o, z40, z41, z3y, z45, z42, z43, z3b, z3c, z47, z1w, z3d, z46, yy0, yy1, yy2, yy3, yy4, yy5, z00, z02, z01, z03, z1v, z1u, z1z, z22, z20, z21, z2a, z28, z29, z27, z26, z2b, theGlobs, yy8, yy9, yy6, ne_eq, yy7, Nat.reduceAdd, Nat.reduceLT, if_true]
  first | rfl | exact ⟨rfl, rfl⟩
theorem wp_ifaug {c e : Ex} {i : Nat} {op : Bop} {ρ : Vars} {a d r : Int} {b : Bool} {Q : Flw → Vars → AH → Prop} (hi : ρ[i]? = some (some (.int a))) (hc : ∀ Q : Bool → AH → Prop, wpT n ρ c H Q = Q b H)
    (he : ∀ Q : PV → AH → Prop, wpE n ρ e H Q = Q (.int d) H) (hop : ∀ Q : PV → AH → Prop, wbi H op a d Q = Q (.int r) H) (h : Q .next (ρ.set i (some (.int (if b = true then r else a)))) H) :
    wpS n (.ite c (.cons (.aug i op e) .nil) .nil) ρ H Q := by
  rw [z3o, hc]
  cases b
  · rw [z1n, if_neg (by decide), z3x]
    rw [if_neg (by decide)] at h
    obtain ⟨h1, h2⟩ := List.getElem?_eq_some_iff.mp hi
    rw [← h2, List.set_getElem_self] at h
    exact h
  · rw [z1n, if_pos rfl, z3u, z3j, hi, z46, z0n, he, z0m, hop, z1g, z1x, z3x]
    rw [if_pos rfl] at h
    exact h
noncomputable def opS (F R : Nat) (x : Fx) (sd : Int) (s : Nat) : Int :=
  let r := rk F R sd s
  let free : Int := if x.opposed.testBit s = true then 0 else 1
  let s1 : Int := if x.connected.testBit s = true then 0 + cScore F R x sd s else 0
  let s2 := if x.isolated.testBit s = true then s1 - ((15 + 11 * free) * 65536 + (5 + 12 * free)) else s1
  let s3 := if x.backward.testBit s = true then s2 - ((24 + 11 * free) * 65536 + (9 + 12 * free)) else s2
  let s4 := if x.doubled.testBit s = true then s3 - (50 * 65536 + 11) else s3
  let s5 := if x.passed.testBit s = true then s4 + ((6 * r * r + 5 * r) * 65536 + 4 * r * r) else s4
  if x.candidates.testBit s = true then s5 + (5 * r * 65536 + 2 * r) else s5
theorem ev_one_pawn {x : Fx} {fl s : Nat} (g : Geo H l F R) (S : Shape F R) (f : FactsAt H fl x) (ho : x.own < 2 ^ (F * R)) (h : s < F * R) : run (n+3) 16 [.loc l, .loc fl, .int s, .int sd] H = some (.int (opS F R x sd s), H) := by
  refine wpO_eq (wp_run (d := d_one_pawn_score) rfl rfl ?_)
  show wpSs (n+2) d_one_pawn_score.body [some (.loc l), some (.loc fl), some (.int s), some (.int sd), none, none, none, none] H _
  have hsz := S.sz
  have r1 := rk_range (sd := sd) S h
  have r8 := S.r8
  have hr : rk F R sd s = 0 ∨ rk F R sd s = 1 ∨ rk F R sd s = 2 ∨ rk F R sd s = 3 ∨ rk F R sd s = 4 ∨ rk F R sd s = 5 ∨ rk F R sd s = 6 ∨ rk F R sd s = 7 := by lia
  unfold d_one_pawn_score
  rw [z3u]
  simp only [z14, z1q, z1r, z1d, z0p, z1a, z15, z1b, z0a, z09, z1f, z1e, z0o, z0u, z0v, z0s, z0r, z0q, z16, z0l, z17, z18, z1o, z1p, z0t, z0g, z0f, z0d, z0c, z0b, z0e, z0z, z0y, z0x, z0w, z10, z19, z1s, z0h, z0j, z0i, z0k, z1c, z1i, z1j, z1l, z1k, z1m, z1g, z0m, z0n, z07, z06, z05, z04, z08, z11, z1n, z12, z13, z1h, z1t, z3h, z2k, z24, z2p, z37, yy5, yy4, z46, wb_one_shl (show s ≤ 1000000 by lia), yy0, yy1, yy7, Nat.reduceAdd, Nat.reduceLT, yy8, yy3, yy2, z1x]
  rw [z3u]
  simp only [z14, z1q, z1r, z1d, z0p, z1a, z15, z1b, z0a, z09, z1f, z1e, z0o, z0u, z0v, z0s, z0r, z0q, z16, z0l, z17, z18, z1o, z1p, z0t, z0g, z0f, z0d, z0c, z0b, z0e, z0z, z0y, z0x, z0w, z10, z19, z1s, z0h, z0j, z0i, z0k, z1c, z1i, z1j, z1l, z1k, z1m, z1g, z0m, z0n, z07, z06, z05, z04, z08, z11, z1n, z12, z13, z1h, z1t, z3h, z2l, z38, z3a, z00, ev_own_rank g S, z3d, z37, yy5, yy4, z46, yy0, yy1, yy7, Nat.reduceAdd, Nat.reduceLT, yy8, yy3, yy2, z1x]
  rw [z3u]
  simp only [z14, z1q, z1r, z1d, z0p, z1a, z15, z1b, z0a, z09, z1f, z1e, z0o, z0u, z0v, z0s, z0r, z0q, z16, z0l, z17, z18, z1o, z1p, z0t, z0g, z0f, z0d, z0c, z0b, z0e, z0z, z0y, z0x, z0w, z10, z19, z1s, z0h, z0j, z0i, z0k, z1c, z1i, z1j, z1l, z1k, z1m, z1g, z0m, z0n, z07, z06, z05, z04, z08, z11, z1n, z12, z13, z1h, z1t, z3h, z2v, z3y, z2k, z24, z2j, f.a7, z47, z20, bandN, z43, ne_eq, bit_and, z37, yy5, yy4, z46, yy0, yy1, yy7, Nat.reduceAdd, Nat.reduceLT, yy8, yy3, yy2, z1x]
  rw [z3u]
  simp only [z14, z1q, z1r, z1d, z0p, z1a, z15, z1b, z0a, z09, z1f, z1e, z0o, z0u, z0v, z0s, z0r, z0q, z16, z0l, z17, z18, z1o, z1p, z0t, z0g, z0f, z0d, z0c, z0b, z0e, z0z, z0y, z0x, z0w, z10, z19, z1s, z0h, z0j, z0i, z0k, z1c, z1i, z1j, z1l, z1k, z1m, z1g, z0m, z0n, z07, z06, z05, z04, z08, z11, z1n, z12, z13, z1h, z1t, z3h, z2p, yy0, yy1, yy7, Nat.reduceAdd, Nat.reduceLT, yy8, yy3, yy2, z1x]
  generalize hfree : (if x.opposed.testBit s = true then (0 : Int) else 1) = free
  have hf : free = 0 ∨ free = 1 := by rw [← hfree]; split <;> simp
  have m1 : ∀ y : Int, (small 12 || small y) = true := fun y => rfl
  have m2 : ∀ y : Int, (small 11 || small y) = true := fun y => rfl
  have m3 : ∀ y : Int, (small 4 || small y) = true := fun y => rfl
  have m4 : ∀ y : Int, (small 6 || small y) = true := fun y => rfl
  have m5 : ∀ y : Int, (small 5 || small y) = true := fun y => rfl
  have m6 : ∀ y : Int, (small 2 || small y) = true := fun y => rfl
  have m7 : (small (4 * rk F R sd s) || small (rk F R sd s)) = true := by rw [small_of (by lia) (by lia)]; rfl
  have m8 : (small (6 * rk F R sd s) || small (rk F R sd s)) = true := by rw [small_of (by lia) (by lia)]; rfl
  have s1 : small (15 + 11 * free) = true := small_of (by lia) (by lia)
  have s2 : small (24 + 11 * free) = true := small_of (by lia) (by lia)
  have s3 : small 50 = true := rfl
  have s4 : small (6 * rk F R sd s * rk F R sd s + 5 * rk F R sd s) = true := by
    refine small_of ?_ ?_ <;> rcases hr with e | e | e | e | e | e | e | e <;> rw [e] <;> decide
  have s5 : small (5 * rk F R sd s) = true := small_of (by lia) (by lia)
  rw [z3u]
  refine wp_ifaug (b := x.connected.testBit s) (d := cScore F R x sd s) rfl (fun Q => by simp only [z14, z1q, z1r, z1d, z0p, z1a, z15, z1b, z0a, z09, z1f, z1e, z0o, z0u, z0v, z0s, z0r, z0q, z16, z0l, z17, z18, z1o, z1p, z0t, z0g, z0f, z0d, z0c, z0b, z0e, z0z, z0y, z0x, z0w, z10, z19, z1s, z0h, z0j, z0i, z0k, z1c, z1i, z1j, z1l, z1k, z1m, z1g, z0m, z0n, z07, z06, z05, z04, z08, z11, z1n, z12, z13, z1h, z1t, z3u, z3x, z1x, z1y, z3h, z3i, z3r, z3s, z3j, z3k, z3m, z3o, z3q, z3t, z3n, z2p, z2s, z37, z2k, z24, z25, z30, z2t, z31, z2f, z32, z2e, z2d, z3g, z3f, z2m, z2n, z2u, z2j, z2x, z35, z2l, z3a, z38, z2i, z2q, z2y, z36, z2o, z40, z41, z3y, z45, z42, z43, z3b, z3c, z47, z1w, z3d, z46, yy0, yy1, yy2, yy3, yy4, yy5, z00, z02, z01, z03, z1v, z1u, z1z, z22, z20, z21, z2a, z28, z29, z27, z26, z2b, theGlobs, yy8, yy9, yy6, ne_eq, yy7, Nat.reduceAdd, Nat.reduceLT, if_true, f.a6, bandN, bit_and]) (fun Q => by simp only [z14, z1q, z1r, z1d, z0p, z1a, z15, z1b, z0a, z09, z1f, z1e, z0o, z0u, z0v, z0s, z0r, z0q, z16, z0l, z17, z18, z1o, z1p, z0t, z0g, z0f, z0d, z0c, z0b, z0e, z0z, z0y, z0x, z0w, z10, z19, z1s, z0h, z0j, z0i, z0k, z1c, z1i, z1j, z1l, z1k, z1m, z1g, z0m, z0n, z07, z06, z05, z04, z08, z11, z1n, z12, z13, z1h, z1t, z3u, z3x, z1x, z1y, z3h, z3i, z3r, z3s, z3j, z3k, z3m, z3o, z3q, z3t, z3n, z2p, z2s, z37, z2k, z24, z25, z30, z2t, z31, z2f, z32, z2e, z2d, z3g, z3f, z2m, z2n, z2u, z2j, z2x, z35, z2l, z3a, z38, z2i, z2q, z2y, z36, z2o, z40, z41, z3y, z45, z42, z43, z3b, z3c, z47, z1w, z3d, z46, yy0, yy1, yy2, yy3, yy4, yy5, z00, z02, z01, z03, z1v, z1u, z1z, z22, z20, z21, z2a, z28, z29, z27, z26, z2b, theGlobs, yy8, yy9, yy6, ne_eq, yy7, Nat.reduceAdd, Nat.reduceLT, if_true, ev_connected g S f ho h]) (fun _ => rfl) ?_
  simp only [z1x, yy3, yy2]
  rw [z3u]
  refine wp_ifaug (b := x.isolated.testBit s) (d := (15 + 11 * free) * 65536 + (5 + 12 * free)) rfl (fun Q => by simp only [z14, z1q, z1r, z1d, z0p, z1a, z15, z1b, z0a, z09, z1f, z1e, z0o, z0u, z0v, z0s, z0r, z0q, z16, z0l, z17, z18, z1o, z1p, z0t, z0g, z0f, z0d, z0c, z0b, z0e, z0z, z0y, z0x, z0w, z10, z19, z1s, z0h, z0j, z0i, z0k, z1c, z1i, z1j, z1l, z1k, z1m, z1g, z0m, z0n, z07, z06, z05, z04, z08, z11, z1n, z12, z13, z1h, z1t, z3u, z3x, z1x, z1y, z3h, z3i, z3r, z3s, z3j, z3k, z3m, z3o, z3q, z3t, z3n, z2p, z2s, z37, z2k, z24, z25, z30, z2t, z31, z2f, z32, z2e, z2d, z3g, z3f, z2m, z2n, z2u, z2j, z2x, z35, z2l, z3a, z38, z2i, z2q, z2y, z36, z2o, z40, z41, z3y, z45, z42, z43, z3b, z3c, z47, z1w, z3d, z46, yy0, yy1, yy2, yy3, yy4, yy5, z00, z02, z01, z03, z1v, z1u, z1z, z22, z20, z21, z2a, z28, z29, z27, z26, z2b, theGlobs, yy8, yy9, yy6, ne_eq, yy7, Nat.reduceAdd, Nat.reduceLT, if_true, f.a3, bandN, bit_and]) (fun Q => by simp only [z14, z1q, z1r, z1d, z0p, z1a, z15, z1b, z0a, z09, z1f, z1e, z0o, z0u, z0v, z0s, z0r, z0q, z16, z0l, z17, z18, z1o, z1p, z0t, z0g, z0f, z0d, z0c, z0b, z0e, z0z, z0y, z0x, z0w, z10, z19, z1s, z0h, z0j, z0i, z0k, z1c, z1i, z1j, z1l, z1k, z1m, z1g, z0m, z0n, z07, z06, z05, z04, z08, z11, z1n, z12, z13, z1h, z1t, z3u, z3x, z1x, z1y, z3h, z3i, z3r, z3s, z3j, z3k, z3m, z3o, z3q, z3t, z3n, z2p, z2s, z37, z2k, z24, z25, z30, z2t, z31, z2f, z32, z2e, z2d, z3g, z3f, z2m, z2n, z2u, z2j, z2x, z35, z2l, z3a, z38, z2i, z2q, z2y, z36, z2o, z40, z41, z3y, z45, z42, z43, z3b, z3c, z47, z1w, z3d, z46, yy0, yy1, yy2, yy3, yy4, yy5, z00, z02, z01, z03, z1v, z1u, z1z, z22, z20, z21, z2a, z28, z29, z27, z26, z2b, theGlobs, yy8, yy9, yy6, ne_eq, yy7, Nat.reduceAdd, Nat.reduceLT, if_true, wb_mul, m1, m2, ev_make_score s1]) (fun _ => rfl) ?_
  simp only [z1x, yy3, yy2]
  rw [z3u]
  refine wp_ifaug (b := x.backward.testBit s) (d := (24 + 11 * free) * 65536 + (9 + 12 * free)) rfl (fun Q => by simp only [z14, z1q, z1r, z1d, z0p, z1a, z15, z1b, z0a, z09, z1f, z1e, z0o, z0u, z0v, z0s, z0r, z0q, z16, z0l, z17, z18, z1o, z1p, z0t, z0g, z0f, z0d, z0c, z0b, z0e, z0z, z0y, z0x, z0w, z10, z19, z1s, z0h, z0j, z0i, z0k, z1c, z1i, z1j, z1l, z1k, z1m, z1g, z0m, z0n, z07, z06, z05, z04, z08, z11, z1n, z12, z13, z1h, z1t, z3u, z3x, z1x, z1y, z3h, z3i, z3r, z3s, z3j, z3k, z3m, z3o, z3q, z3t, z3n, z2p, z2s, z37, z2k, z24, z25, z30, z2t, z31, z2f, z32, z2e, z2d, z3g, z3f, z2m, z2n, z2u, z2j, z2x, z35, z2l, z3a, z38, z2i, z2q, z2y, z36, z2o, z40, z41, z3y, z45, z42, z43, z3b, z3c, z47, z1w, z3d, z46, yy0, yy1, yy2, yy3, yy4, yy5, z00, z02, z01, z03, z1v, z1u, z1z, z22, z20, z21, z2a, z28, z29, z27, z26, z2b, theGlobs, yy8, yy9, yy6, ne_eq, yy7, Nat.reduceAdd, Nat.reduceLT, if_true, f.a5, bandN, bit_and]) (fun Q => by simp only [z14, z1q, z1r, z1d, z0p, z1a, z15, z1b, z0a, z09, z1f, z1e, z0o, z0u, z0v, z0s, z0r, z0q, z16, z0l, z17, z18, z1o, z1p, z0t, z0g, z0f, z0d, z0c, z0b, z0e, z0z, z0y, z0x, z0w, z10, z19, z1s, z0h, z0j, z0i, z0k, z1c, z1i, z1j, z1l, z1k, z1m, z1g, z0m, z0n, z07, z06, z05, z04, z08, z11, z1n, z12, z13, z1h, z1t, z3u, z3x, z1x, z1y, z3h, z3i, z3r, z3s, z3j, z3k, z3m, z3o, z3q, z3t, z3n, z2p, z2s, z37, z2k, z24, z25, z30, z2t, z31, z2f, z32, z2e, z2d, z3g, z3f, z2m, z2n, z2u, z2j, z2x, z35, z2l, z3a, z38, z2i, z2q, z2y, z36, z2o, z40, z41, z3y, z45, z42, z43, z3b, z3c, z47, z1w, z3d, z46, yy0, yy1, yy2, yy3, yy4, yy5, z00, z02, z01, z03, z1v, z1u, z1z, z22, z20, z21, z2a, z28, z29, z27, z26, z2b, theGlobs, yy8, yy9, yy6, ne_eq, yy7, Nat.reduceAdd, Nat.reduceLT, if_true, wb_mul, m1, m2, ev_make_score s2]) (fun _ => rfl) ?_
  simp only [z1x, yy3, yy2]
  rw [z3u]
  refine wp_ifaug (b := x.doubled.testBit s) (d := 50 * 65536 + 11) rfl (fun Q => by simp only [z14, z1q, z1r, z1d, z0p, z1a, z15, z1b, z0a, z09, z1f, z1e, z0o, z0u, z0v, z0s, z0r, z0q, z16, z0l, z17, z18, z1o, z1p, z0t, z0g, z0f, z0d, z0c, z0b, z0e, z0z, z0y, z0x, z0w, z10, z19, z1s, z0h, z0j, z0i, z0k, z1c, z1i, z1j, z1l, z1k, z1m, z1g, z0m, z0n, z07, z06, z05, z04, z08, z11, z1n, z12, z13, z1h, z1t, z3u, z3x, z1x, z1y, z3h, z3i, z3r, z3s, z3j, z3k, z3m, z3o, z3q, z3t, z3n, z2p, z2s, z37, z2k, z24, z25, z30, z2t, z31, z2f, z32, z2e, z2d, z3g, z3f, z2m, z2n, z2u, z2j, z2x, z35, z2l, z3a, z38, z2i, z2q, z2y, z36, z2o, z40, z41, z3y, z45, z42, z43, z3b, z3c, z47, z1w, z3d, z46, yy0, yy1, yy2, yy3, yy4, yy5, z00, z02, z01, z03, z1v, z1u, z1z, z22, z20, z21, z2a, z28, z29, z27, z26, z2b, theGlobs, yy8, yy9, yy6, ne_eq, yy7, Nat.reduceAdd, Nat.reduceLT, if_true, f.a4, bandN, bit_and]) (fun Q => by simp only [z14, z1q, z1r, z1d, z0p, z1a, z15, z1b, z0a, z09, z1f, z1e, z0o, z0u, z0v, z0s, z0r, z0q, z16, z0l, z17, z18, z1o, z1p, z0t, z0g, z0f, z0d, z0c, z0b, z0e, z0z, z0y, z0x, z0w, z10, z19, z1s, z0h, z0j, z0i, z0k, z1c, z1i, z1j, z1l, z1k, z1m, z1g, z0m, z0n, z07, z06, z05, z04, z08, z11, z1n, z12, z13, z1h, z1t, z3u, z3x, z1x, z1y, z3h, z3i, z3r, z3s, z3j, z3k, z3m, z3o, z3q, z3t, z3n, z2p, z2s, z37, z2k, z24, z25, z30, z2t, z31, z2f, z32, z2e, z2d, z3g, z3f, z2m, z2n, z2u, z2j, z2x, z35, z2l, z3a, z38, z2i, z2q, z2y, z36, z2o, z40, z41, z3y, z45, z42, z43, z3b, z3c, z47, z1w, z3d, z46, yy0, yy1, yy2, yy3, yy4, yy5, z00, z02, z01, z03, z1v, z1u, z1z, z22, z20, z21, z2a, z28, z29, z27, z26, z2b, theGlobs, yy8, yy9, yy6, ne_eq, yy7, Nat.reduceAdd, Nat.reduceLT, if_true, wb_mul, ev_make_score s3]) (fun _ => rfl) ?_
  simp only [z1x, yy3, yy2]
  rw [z3u]
  refine wp_ifaug (b := x.passed.testBit s) (d := (6 * rk F R sd s * rk F R sd s + 5 * rk F R sd s) * 65536 + 4 * rk F R sd s * rk F R sd s) rfl (fun Q => by simp only [z14, z1q, z1r, z1d, z0p, z1a, z15, z1b, z0a, z09, z1f, z1e, z0o, z0u, z0v, z0s, z0r, z0q, z16, z0l, z17, z18, z1o, z1p, z0t, z0g, z0f, z0d, z0c, z0b, z0e, z0z, z0y, z0x, z0w, z10, z19, z1s, z0h, z0j, z0i, z0k, z1c, z1i, z1j, z1l, z1k, z1m, z1g, z0m, z0n, z07, z06, z05, z04, z08, z11, z1n, z12, z13, z1h, z1t, z3u, z3x, z1x, z1y, z3h, z3i, z3r, z3s, z3j, z3k, z3m, z3o, z3q, z3t, z3n, z2p, z2s, z37, z2k, z24, z25, z30, z2t, z31, z2f, z32, z2e, z2d, z3g, z3f, z2m, z2n, z2u, z2j, z2x, z35, z2l, z3a, z38, z2i, z2q, z2y, z36, z2o, z40, z41, z3y, z45, z42, z43, z3b, z3c, z47, z1w, z3d, z46, yy0, yy1, yy2, yy3, yy4, yy5, z00, z02, z01, z03, z1v, z1u, z1z, z22, z20, z21, z2a, z28, z29, z27, z26, z2b, theGlobs, yy8, yy9, yy6, ne_eq, yy7, Nat.reduceAdd, Nat.reduceLT, if_true, f.a8, bandN, bit_and]) (fun Q => by simp only [z14, z1q, z1r, z1d, z0p, z1a, z15, z1b, z0a, z09, z1f, z1e, z0o, z0u, z0v, z0s, z0r, z0q, z16, z0l, z17, z18, z1o, z1p, z0t, z0g, z0f, z0d, z0c, z0b, z0e, z0z, z0y, z0x, z0w, z10, z19, z1s, z0h, z0j, z0i, z0k, z1c, z1i, z1j, z1l, z1k, z1m, z1g, z0m, z0n, z07, z06, z05, z04, z08, z11, z1n, z12, z13, z1h, z1t, z3u, z3x, z1x, z1y, z3h, z3i, z3r, z3s, z3j, z3k, z3m, z3o, z3q, z3t, z3n, z2p, z2s, z37, z2k, z24, z25, z30, z2t, z31, z2f, z32, z2e, z2d, z3g, z3f, z2m, z2n, z2u, z2j, z2x, z35, z2l, z3a, z38, z2i, z2q, z2y, z36, z2o, z40, z41, z3y, z45, z42, z43, z3b, z3c, z47, z1w, z3d, z46, yy0, yy1, yy2, yy3, yy4, yy5, z00, z02, z01, z03, z1v, z1u, z1z, z22, z20, z21, z2a, z28, z29, z27, z26, z2b, theGlobs, yy8, yy9, yy6, ne_eq, yy7, Nat.reduceAdd, Nat.reduceLT, if_true, wb_mul, m3, m4, m5, m7, m8, ev_make_score s4]) (fun _ => rfl) ?_
  simp only [z1x, yy3, yy2]
  rw [z3u]
  refine wp_ifaug (b := x.candidates.testBit s) (d := 5 * rk F R sd s * 65536 + 2 * rk F R sd s) rfl (fun Q => by simp only [z14, z1q, z1r, z1d, z0p, z1a, z15, z1b, z0a, z09, z1f, z1e, z0o, z0u, z0v, z0s, z0r, z0q, z16, z0l, z17, z18, z1o, z1p, z0t, z0g, z0f, z0d, z0c, z0b, z0e, z0z, z0y, z0x, z0w, z10, z19, z1s, z0h, z0j, z0i, z0k, z1c, z1i, z1j, z1l, z1k, z1m, z1g, z0m, z0n, z07, z06, z05, z04, z08, z11, z1n, z12, z13, z1h, z1t, z3u, z3x, z1x, z1y, z3h, z3i, z3r, z3s, z3j, z3k, z3m, z3o, z3q, z3t, z3n, z2p, z2s, z37, z2k, z24, z25, z30, z2t, z31, z2f, z32, z2e, z2d, z3g, z3f, z2m, z2n, z2u, z2j, z2x, z35, z2l, z3a, z38, z2i, z2q, z2y, z36, z2o, z40, z41, z3y, z45, z42, z43, z3b, z3c, z47, z1w, z3d, z46, yy0, yy1, yy2, yy3, yy4, yy5, z00, z02, z01, z03, z1v, z1u, z1z, z22, z20, z21, z2a, z28, z29, z27, z26, z2b, theGlobs, yy8, yy9, yy6, ne_eq, yy7, Nat.reduceAdd, Nat.reduceLT, if_true, f.a9, bandN, bit_and]) (fun Q => by simp only [z14, z1q, z1r, z1d, z0p, z1a, z15, z1b, z0a, z09, z1f, z1e, z0o, z0u, z0v, z0s, z0r, z0q, z16, z0l, z17, z18, z1o, z1p, z0t, z0g, z0f, z0d, z0c, z0b, z0e, z0z, z0y, z0x, z0w, z10, z19, z1s, z0h, z0j, z0i, z0k, z1c, z1i, z1j, z1l, z1k, z1m, z1g, z0m, z0n, z07, z06, z05, z04, z08, z11, z1n, z12, z13, z1h, z1t, z3u, z3x, z1x, z1y, z3h, z3i, z3r, z3s, z3j, z3k, z3m, z3o, z3q, z3t, z3n, z2p, z2s, z37, z2k, z24, z25, z30, z2t, z31, z2f, z32, z2e, z2d, z3g, z3f, z2m, z2n, z2u, z2j, z2x, z35, z2l, z3a, z38, z2i, z2q, z2y, z36, z2o, z40, z41, z3y, z45, z42, z43, z3b, z3c, z47, z1w, z3d, z46, yy0, yy1, yy2, yy3, yy4, yy5, z00, z02, z01, z03, z1v, z1u, z1z, z22, z20, z21, z2a, z28, z29, z27, z26, z2b, theGlobs, yy8, yy9, yy6, ne_eq, yy7, Nat.reduceAdd, Nat.reduceLT, if_true, wb_mul, m6, m5, ev_make_score s5]) (fun _ => rfl) ?_
  simp only [z1x, yy3, yy2, z14, z1q, z1r, z1d, z0p, z1a, z15, z1b, z0a, z09, z1f, z1e, z0o, z0u, z0v, z0s, z0r, z0q, z16, z0l, z17, z18, z1o, z1p, z0t, z0g, z0f, z0d, z0c, z0b, z0e, z0z, z0y, z0x, z0w, z10, z19, z1s, z0h, z0j, z0i, z0k, z1c, z1i, z1j, z1l, z1k, z1m, z1g, z0m, z0n, z07, z06, z05, z04, z08, z11, z1n, z12, z13, z1h, z1t, z3u, z3x, z1x, z1y, z3h, z3i, z3r, z3s, z3j, z3k, z3m, z3o, z3q, z3t, z3n, z2p, z2s, z37, z2k, z24, z25, z30, z2t, z31, z2f, z32, z2e, z2d, z3g, z3f, z2m, z2n, z2u, z2j, z2x, z35, z2l, z3a, z38, z2i, z2q, z2y, z36, z2o, z40, z41, z3y, z45, z42, z43, z3b, z3c, z47, z1w, z3d, z46, yy0, yy1, yy2, yy3, yy4, yy5, z00, z02, z01, z03, z1v, z1u, z1z, z22, z20, z21, z2a, z28, z29, z27, z26, z2b, theGlobs, yy8, yy9, yy6, ne_eq, yy7, Nat.reduceAdd, Nat.reduceLT, if_true]
  subst hfree
  rfl
theorem FactsAt.pre {H' : AH} {fl : Nat} {x : Fx} (f : FactsAt H fl x) (h : H <+: H') : FactsAt H' fl x :=
  ⟨attr_pre h f.a0, attr_pre h f.a3, attr_pre h f.a4, attr_pre h f.a5, attr_pre h f.a6, attr_pre h f.a7, attr_pre h f.a8, attr_pre h f.a9⟩
theorem factsAt_mid {E : AH} {x : Fx} : FactsAt (H ++ .inst 0 x.fs :: E) H.length x := by
  obtain ⟨a0, a1, a2, a3, a4, a5, a6, a7, a8, a9⟩ := vg (H := H) (E := E) (x := x)
  exact ⟨a0, a3, a4, a5, a6, a7, a8, a9⟩
noncomputable abbrev scoreBody : Sts := .cons (.aug 3 .add (.call (.user 16) (.cons (.attr (.var 0) 24) (.cons (.var 2) (.cons (.var 4) (.cons (.var 1) .nil)))))) .nil
theorem score_loop {x : Fx} {p fl : Nat} (g : Geo H l F R) (S : Shape F R) (f : FactsAt H fl x) (ho : x.own < 2 ^ (F * R)) (hp : vGetAttr H (.loc p) 24 = some (.loc l)) {Q : Flw → Vars → AH → Prop} {vs0 : List PV} :
    ∀ (r : List Nat) (a : Int) (o : Option PV), (∀ s ∈ r, s < F * R) →
    (∀ o, Q .next [some (.loc p), some (.int sd), some (.loc fl), some (.int (a + (r.map (opS F R x sd)).sum)), o] H) →
    wpF (n+3) (.lst vs0) vs0 [4] scoreBody (pints r) [some (.loc p), some (.int sd), some (.loc fl), some (.int a), o] H Q
  | [], a, o, hr, q => by
    rw [pints, List.map_nil]; refine wpF_nil ?_
    have := q o
    rw [List.map_nil, List.sum_nil, Int.add_zero] at this
    exact ⟨rfl, this⟩
  | s :: r, a, o, hr, q => by
    have hs := hr s List.mem_cons_self
    have nx := fun a o => score_loop (vs0 := vs0) (Q := Q) g S f ho hp r a o (fun s hs => hr s (List.mem_cons_of_mem _ hs))
    rw [pints, List.map_cons]; refine wpF_cons ?_
    refine ⟨rfl, ?_⟩
    simp only [bindT_one, og_t, decide_true, z14, z1q, z1r, z1d, z0p, z1a, z15, z1b, z0a, z09, z1f, z1e, z0o, z0u, z0v, z0s, z0r, z0q, z16, z0l, z17, z18, z1o, z1p, z0t, z0g, z0f, z0d, z0c, z0b, z0e, z0z, z0y, z0x, z0w, z10, z19, z1s, z0h, z0j, z0i, z0k, z1c, z1i, z1j, z1l, z1k, z1m, z1g, z0m, z0n, z07, z06, z05, z04, z08, z11, z1n, z12, z13, z1h, z1t, z3u, z3x, z1x, z1y, z3h, z3i, z3r, z3s, z3j, z3k, z3m, z3o, z3q, z3t, z3n, z2p, z2s, z37, z2k, z24, z25, z30, z2t, z31, z2f, z32, z2e, z2d, z3g, z3f, z2m, z2n, z2u, z2j, z2x, z35, z2l, z3a, z38, z2i, z2q, z2y, z36, z2o, z40, z41, z3y, z45, z42, z43, z3b, z3c, z47, z1w, z3d, z46, yy0, yy1, yy2, yy3, yy4, yy5, z00, z02, z01, z03, z1v, z1u, z1z, z22, z20, z21, z2a, z28, z29, z27, z26, z2b, theGlobs, yy8, yy9, yy6, ne_eq, yy7, Nat.reduceAdd, Nat.reduceLT, if_true, scoreBody, hp, ev_one_pawn g S f ho hs]
    refine nx _ _ fun o => ?_
    have := q o
    rw [List.map_cons, List.sum_cons, ← Int.add_assoc] at this
    exact this
theorem ev_pawn_score {p kp : Nat} {s : Int → Nat} (g : Geo H l F R) (S : Shape F R) (P : PosAt H p l kp s) (hs : sd = 0 ∨ sd = 1) (ho : kp &&& s sd = own) (hf : kp &&& s (1 - sd) = foe) (h1 : own < 2 ^ (F * R)) (h2 : foe < 2 ^ (F * R)) :
    run (n+5) 17 [.loc p, .int sd] H = some (.int ((sq 64 own 0).map (opS F R (factsOf F R own foe sd) sd)).sum, H ++ [.inst 0 (factsOf F R own foe sd).fs, .dead, .dead]) := by
  refine wpO_eq (wp_run (d := d_pawn_score) rfl rfl ?_)
  show wpSs (n+4) d_pawn_score.body [some (.loc p), some (.int sd), none, none, none] H _
  have hl : (sq 64 own 0).length ≤ 1000 := Nat.le_trans (sq_len ..) (by decide)
  have f0 : vGetAttr (H ++ [.inst 0 (factsOf F R own foe sd).fs, .dead]) (.loc H.length) 0 = some (.int own) := factsAt_mid.a0
  simp only [d_pawn_score, z14, z1q, z1r, z1d, z0p, z1a, z15, z1b, z0a, z09, z1f, z1e, z0o, z0u, z0v, z0s, z0r, z0q, z16, z0l, z17, z18, z1o, z1p, z0t, z0g, z0f, z0d, z0c, z0b, z0e, z0z, z0y, z0x, z0w, z10, z19, z1s, z0h, z0j, z0i, z0k, z1c, z1i, z1j, z1l, z1k, z1m, z1g, z0m, z0n, z07, z06, z05, z04, z08, z11, z1n, z12, z13, z1h, z1t, z3u, z3x, z1x, z1y, z3h, z3i, z3r, z3s, z3j, z3k, z3m, z3o, z3q, z3t, z3n, z2p, z2s, z37, z2k, z24, z25, z30, z2t, z31, z2f, z32, z2e, z2d, z3g, z3f, z2m, z2n, z2u, z2j, z2x, z35, z2l, z3a, z38, z2i, z2q, z2y, z36, z2o, z40, z41, z3y, z45, z42, z43, z3b, z3c, z47, z1w, z3d, z46, yy0, yy1, yy2, yy3, yy4, yy5, z00, z02, z01, z03, z1v, z1u, z1z, z22, z20, z21, z2a, z28, z29, z27, z26, z2b, theGlobs, yy8, yy9, yy6, ne_eq, yy7, Nat.reduceAdd, Nat.reduceLT, if_true, ev_pawn_facts g S P hs ho hf h1 h2, f0, ev_squares_of (S.lt64 h1), source, items, List.length_map, List.append_assoc, List.cons_append, List.nil_append]
  refine ⟨hl, ?_⟩
  have hpre : H <+: H ++ [.inst 0 (factsOf F R own foe sd).fs, .dead, .dead] := List.prefix_append _ _
  refine score_loop (g.pre hpre) S factsAt_mid h1 (attr_pre hpre P.geo) (sq 64 own 0) 0 _ (fun s hs => sq_lt h1 hs) fun o => ?_
  simp only [z14, z1q, z1r, z1d, z0p, z1a, z15, z1b, z0a, z09, z1f, z1e, z0o, z0u, z0v, z0s, z0r, z0q, z16, z0l, z17, z18, z1o, z1p, z0t, z0g, z0f, z0d, z0c, z0b, z0e, z0z, z0y, z0x, z0w, z10, z19, z1s, z0h, z0j, z0i, z0k, z1c, z1i, z1j, z1l, z1k, z1m, z1g, z0m, z0n, z07, z06, z05, z04, z08, z11, z1n, z12, z13, z1h, z1t, z3u, z3x, z1x, z1y, z3h, z3i, z3r, z3s, z3j, z3k, z3m, z3o, z3q, z3t, z3n, z2p, z2s, z37, z2k, z24, z25, z30, z2t, z31, z2f, z32, z2e, z2d, z3g, z3f, z2m, z2n, z2u, z2j, z2x, z35, z2l, z3a, z38, z2i, z2q, z2y, z36, z2o, z40, z41, z3y, z45, z42, z43, z3b, z3c, z47, z1w, z3d, z46, yy0, yy1, yy2, yy3, yy4, yy5, z00, z02, z01, z03, z1v, z1u, z1z, z22, z20, z21, z2a, z28, z29, z27, z26, z2b, theGlobs, yy8, yy9, yy6, ne_eq, yy7, Nat.reduceAdd, Nat.reduceLT, if_true, Int.zero_add]
end
end Mine
end

section
set_option linter.unusedSimpArgs false
set_option maxRecDepth 100000
namespace Mine
open PySem.Builtin

noncomputable def Src (H : AH) (v : PV) (vs : List PV) : Prop := ∀ H', H <+: H' → items H' v = some vs ∧ source H' v = some vs ∧ stays v vs H' = true
theorem Src.lst {H : AH} {vs : List PV} : Src H (.lst vs) vs := fun _ _ => ⟨rfl, rfl, rfl⟩
theorem Src.loc {H : AH} {l : Nat} {vs : List PV} (h : H[l]? = some (.list vs)) : Src H (.loc l) vs := fun H' hp => by
  have e := pre_get hp h
  have e2 : items H' (.loc l) = some vs := by simp only [items, e]
  refine ⟨e2, e2, ?_⟩
  exact @decide_eq_true _ (Classical.propDecidable _) e
theorem Src.pre {H H' : AH} {v : PV} {vs : List PV} (s : Src H v vs) (h : H <+: H') : Src H' v vs := fun H'' h' => s H'' (h.trans h')

noncomputable def pvs (L : List (Int × Int)) : List PV := L.map fun p => .tup [.int p.1, .int p.2]
noncomputable def ivs (L : List Int) : List PV := L.map fun p => .int p
noncomputable def rl (R : Nat) (sd r : Int) : Int := if sd = 0 then r else R - 1 - r
noncomputable def idx (F R : Nat) (sd : Int) (p : Int × Int) : Int := rl R sd p.2 * F + p.1
noncomputable def OnB (F R : Nat) (p : Int × Int) : Prop := 0 ≤ p.1 ∧ p.1 < F ∧ 0 ≤ p.2 ∧ p.2 < R
theorem rl_range {R : Nat} {sd r : Int} (h : 0 ≤ r ∧ r < R) : 0 ≤ rl R sd r ∧ rl R sd r < R := by unfold rl; split <;> lia
theorem idx_range {F R : Nat} {sd : Int} {p : Int × Int} (h : OnB F R p) : 0 ≤ idx F R sd p ∧ idx F R sd p < (F * R : Nat) := by
  obtain ⟨h1, h2, h3, h4⟩ := h
  obtain ⟨h5, h6⟩ := rl_range (sd := sd) ⟨h3, h4⟩
  unfold idx
  generalize rl R sd p.2 = q at *
  obtain ⟨q', rfl⟩ := Int.eq_ofNat_of_zero_le h5
  obtain ⟨f', e⟩ := Int.eq_ofNat_of_zero_le h1
  rw [e] at h1 h2 ⊢
  have h7 : q' < R := by lia
  have h8 : f' < F := by lia
  have h9 : q' * F + f' < F * R := by
    have : (q' + 1) * F ≤ R * F := Nat.mul_le_mul_right F h7
    rw [Nat.add_mul, Nat.one_mul] at this
    rw [Nat.mul_comm F R]; lia
  constructor
  · have : (0 : Int) ≤ ((q' * F + f' : Nat) : Int) := Int.natCast_nonneg _
    rw [Int.natCast_add, Int.natCast_mul] at this; exact this
  · have : ((q' * F + f' : Nat) : Int) < ((F * R : Nat) : Int) := by exact_mod_cast h9
    rw [Int.natCast_add, Int.natCast_mul] at this; exact this

noncomputable def mk (P : Nat → Bool) (N : Nat) : List PV := (List.range N).map fun s => .int (if P s = true then 1 else 0)
theorem mk_len {P : Nat → Bool} {N : Nat} : (mk P N).length = N := by simp [mk]
theorem mk_get {P : Nat → Bool} {N i : Nat} (h : i < N) : (mk P N)[i]? = some (.int (if P i = true then 1 else 0)) := by
  simp [mk, List.getElem?_map, List.getElem?_range h]
theorem mk_set {P : Nat → Bool} {N i : Nat} : (mk P N).set i (.int 1) = mk (fun s => P s || s == i) N := by
  apply List.ext_getElem?
  intro j
  rw [List.getElem?_set]
  rcases Nat.lt_or_ge j N with h | h
  · have e1 : ∀ P, (mk P N)[j]? = some (.int (if P j = true then 1 else 0)) := fun P => mk_get h
    rw [e1, e1]
    by_cases e : i = j
    · subst e; rw [if_pos rfl, mk_len, if_pos h]; simp
    · rw [if_neg e]
      have : (j == i) = false := by rw [beq_eq_false_iff_ne]; exact fun q => e q.symm
      simp [this]
  · have : N ≤ j := h
    have e1 : ∀ P, (mk P N)[j]? = none := fun P => List.getElem?_eq_none (by rw [mk_len]; exact this)
    rw [e1, e1]
    split
    · rw [mk_len, if_neg (by lia)]
    · rfl
theorem mk_rep {N : Nat} : List.replicate N (.int 0) = mk (fun _ => false) N := by
  apply List.ext_getElem?
  intro j
  rcases Nat.lt_or_ge j N with h | h
  · rw [mk_get h, List.getElem?_replicate, if_pos h]; rfl
  · rw [List.getElem?_eq_none (by simpa using h), List.getElem?_eq_none (by rw [mk_len]; exact h)]
noncomputable def bsum (P : Nat → Bool) : Nat → Nat
  | 0 => 0
  | k + 1 => bsum P k + (if P k = true then 2 ^ k else 0)
theorem bsum_lt (P : Nat → Bool) : ∀ k, bsum P k < 2 ^ k
  | 0 => by simp [bsum]
  | k + 1 => by
    have := bsum_lt P k
    rw [bsum, Nat.pow_succ]; split <;> lia
theorem bsum_bit (P : Nat → Bool) (i : Nat) : ∀ k, (bsum P k).testBit i = (decide (i < k) && P i)
  | 0 => by simp [bsum]
  | k + 1 => by
    have h1 := bsum_lt P k
    have h2 := bsum_bit P i k
    rw [bsum]
    by_cases h : P k = true
    · rw [if_pos h]
      have e := Nat.two_pow_add_eq_or_of_lt h1 1
      rw [Nat.mul_one] at e
      rw [Nat.add_comm, e, Nat.testBit_or, Nat.testBit_two_pow, h2]
      by_cases e2 : k = i
      · subst e2; simp [h]
      · by_cases e3 : i < k
        · simp [e2, e3, show i < k + 1 by lia]
        · simp [e2, e3, show ¬ i < k + 1 by lia]
    · rw [if_neg h, Nat.add_zero, h2]
      by_cases e2 : i = k
      · subst e2; simp [h]
      · by_cases e3 : i < k
        · simp [e3, show i < k + 1 by lia]
        · simp [e3, show ¬ i < k + 1 by lia]
theorem bsum_step {P : Nat → Bool} {k : Nat} : (bsum P k : Int) + (if P k = true then (1 : Int) else 0) * 2 ^ k = (bsum P (k + 1) : Nat) := by
  rw [bsum]; split <;> simp
noncomputable def inL (F R : Nat) (sd : Int) (L : List (Int × Int)) (s : Nat) : Bool := L.any fun p => decide (idx F R sd p = (s : Int))
noncomputable def lawN (F R : Nat) (sd : Int) (L : List (Int × Int)) : Nat := bsum (inL F R sd L) (F * R)

section
variable {n F R : Nat} {sd : Int} {H : AH}
theorem wb_rep {v : PV} {k : Nat} {Q : PV → AH → Prop} (h : k ≤ 1000) : wpO (binop (H ++ [.list [v]]) .mul (.loc H.length) (.int k)) Q = Q (.loc (H.length + 1)) (H ++ [.list [v], .list (List.replicate k v)]) := by
  rw [bo_rep (v := v) (by simp) h, z3d]; simp
theorem vsi_1 {a : AObj} {ms : List PV} {i : Int} {x : PV} (h0 : 0 ≤ i) (h1 : i < ms.length) (h2 : ms.length ≤ 1000) : vSetItem (H ++ [a, .list ms]) (.loc (H.length + 1)) (.int i) x = some (H ++ [a, .list (ms.set i.toNat x)]) := by
  have e : (H ++ [a, .list ms])[H.length + 1]? = some (.list ms) := by simp
  have h3 : i.toNat < ms.length := by lia
  have h4 : i < 1000000 := by lia
  simp [vSetItem, h0, h3, h4]
theorem rng_cons {k m : Nat} : rngList (k : Int) 1 (m + 1) = .int (k : Int) :: rngList ((k + 1 : Nat) : Int) 1 m := rfl
noncomputable abbrev bitsBody1 : Sts := .cons (.assign 7 (.ite (.cmp .eq (.var 2) (.const (.int 0))) (.var 6) (.bin .sub (.bin .sub (.var 1) (.const (.int 1))) (.var 6)))) (.cons (.setItem (.var 4) (.bin .add (.bin .mul (.var 7) (.var 0)) (.var 5)) (.const (.int 1))) .nil)
theorem smallF {F : Nat} (h : F ≤ 1000) : small (F : Int) = true := small_of (by lia) (by lia)
theorem bits_loop1 (S : Shape F R) {Q : Flw → Vars → AH → Prop} {pl : PV} {L : List (Int × Int)} {a : AObj} (hs : Src H pl (pvs L)) : ∀ (r : List (Int × Int)) (P : Nat → Bool) (o1 o2 o3 o4 o5 : Option PV), (∀ p ∈ r, OnB F R p) →
    (∀ o1 o2 o3, Q .next [some (.int F), some (.int R), some (.int sd), some pl, some (.loc (H.length + 1)), o1, o2, o3, o4, o5] (H ++ [a, .list (mk (fun s => P s || inL F R sd r s) (F * R))])) →
    wpF n pl (pvs L) [5, 6] bitsBody1 (pvs r) [some (.int F), some (.int R), some (.int sd), some pl, some (.loc (H.length + 1)), o1, o2, o3, o4, o5] (H ++ [a, .list (mk P (F * R))]) Q
  | [], P, o1, o2, o3, o4, o5, hr, q => by
    rw [show pvs [] = [] from rfl]; refine wpF_nil ?_
    have := q o1 o2 o3
    simp only [inL, List.any_nil, Bool.or_false] at this
    exact ⟨(hs _ (List.prefix_append _ _)).2.2, this⟩
  | p :: r, P, o1, o2, o3, o4, o5, hr, q => by
    have hp := hr p List.mem_cons_self
    have hi := idx_range (sd := sd) hp
    have hsz := S.sz
    have hR := S.r8; have hF := S.f8
    have nx := fun P o1 o2 o3 => bits_loop1 (Q := Q) (a := a) S hs r P o1 o2 o3 o4 o5 (fun s hs => hr s (List.mem_cons_of_mem _ hs))
    rw [show pvs (p :: r) = .tup [.int p.1, .int p.2] :: pvs r from rfl]; refine wpF_cons ?_
    refine ⟨(hs _ (List.prefix_append _ _)).2.2, ?_⟩
    have m1 : ∀ y, (small y || small (F : Int)) = true := fun y => by rw [smallF (by lia)]; simp
    have hlen : (mk P (F * R)).length ≤ 1000 := by rw [mk_len]; lia
    have e1 := vsi_1 (H := H) (a := a) (ms := mk P (F * R)) (i := idx F R sd p) (x := .int 1) hi.1 (by rw [mk_len]; exact hi.2) hlen
    have fin : ∀ o1 o2 o3, wpF n pl (pvs L) [5, 6] bitsBody1 (pvs r) [some (.int F), some (.int R), some (.int sd), some pl, some (.loc (H.length + 1)), o1, o2, o3, o4, o5] (H ++ [a, .list ((mk P (F * R)).set (idx F R sd p).toNat (.int 1))]) Q := by
      intro o1 o2 o3
      rw [mk_set]
      refine nx _ o1 o2 o3 fun o1 o2 o3 => ?_
      have := q o1 o2 o3
      have e : (fun s => P s || inL F R sd (p :: r) s) = fun s => (P s || s == (idx F R sd p).toNat) || inL F R sd r s := by
        funext s
        rw [inL, List.any_cons, ← Bool.or_assoc]
        congr 2
        rw [Bool.eq_iff_iff]; simp; lia
      rw [e] at this
      exact this
    unfold idx rl at e1 fin
    simp only [bindT_one, bindT_tup, setAll_cons, setAll_nil, og_t, decide_true, z14, z1q, z1r, z1d, z0p, z1a, z15, z1b, z0a, z09, z1f, z1e, z0o, z0u, z0v, z0s, z0r, z0q, z16, z0l, z17, z18, z1o, z1p, z0t, z0g, z0f, z0d, z0c, z0b, z0e, z0z, z0y, z0x, z0w, z10, z19, z1s, z0h, z0j, z0i, z0k, z1c, z1i, z1j, z1l, z1k, z1m, z1g, z0m, z0n, z07, z06, z05, z04, z08, z11, z1n, z12, z13, z1h, z1t, z3u, z3x, z1x, z1y, z3h, z3i, z3r, z3s, z3j, z3k, z3m, z3o, z3q, z3t, z3n, z2p, z2s, z37, z2k, z24, z25, z30, z2t, z31, z2f, z32, z2e, z2d, z3g, z3f, z2m, z2n, z2u, z2j, z2x, z35, z2l, z3a, z38, z2i, z2q, z2y, z36, z2o, z40, z41, z3y, z45, z42, z43, z3b, z3c, z47, z1w, z3d, z46, yy0, yy1, yy2, yy3, yy4, yy5, z00, z02, z01, z03, z1v, z1u, z1z, z22, z20, z21, z2a, z28, z29, z27, z26, z2b, theGlobs, yy8, yy9, yy6, ne_eq, yy7, Nat.reduceAdd, Nat.reduceLT, if_true, bitsBody1, wb_mul, m1]
    by_cases h0 : sd = 0
    · rw [if_pos h0] at e1 fin
      rw [if_pos h0]
      simp only [e1, z14, z1q, z1r, z1d, z0p, z1a, z15, z1b, z0a, z09, z1f, z1e, z0o, z0u, z0v, z0s, z0r, z0q, z16, z0l, z17, z18, z1o, z1p, z0t, z0g, z0f, z0d, z0c, z0b, z0e, z0z, z0y, z0x, z0w, z10, z19, z1s, z0h, z0j, z0i, z0k, z1c, z1i, z1j, z1l, z1k, z1m, z1g, z0m, z0n, z07, z06, z05, z04, z08, z11, z1n, z12, z13, z1h, z1t, z3u, z3x, z1x, z1y, z3h, z3i, z3r, z3s, z3j, z3k, z3m, z3o, z3q, z3t, z3n, z2p, z2s, z37, z2k, z24, z25, z30, z2t, z31, z2f, z32, z2e, z2d, z3g, z3f, z2m, z2n, z2u, z2j, z2x, z35, z2l, z3a, z38, z2i, z2q, z2y, z36, z2o, z40, z41, z3y, z45, z42, z43, z3b, z3c, z47, z1w, z3d, z46, yy0, yy1, yy2, yy3, yy4, yy5, z00, z02, z01, z03, z1v, z1u, z1z, z22, z20, z21, z2a, z28, z29, z27, z26, z2b, theGlobs, yy8, yy9, yy6, ne_eq, yy7, Nat.reduceAdd, Nat.reduceLT, if_true]
      exact fin _ _ _
    · rw [if_neg h0] at e1 fin
      rw [if_neg h0]
      simp only [e1, z14, z1q, z1r, z1d, z0p, z1a, z15, z1b, z0a, z09, z1f, z1e, z0o, z0u, z0v, z0s, z0r, z0q, z16, z0l, z17, z18, z1o, z1p, z0t, z0g, z0f, z0d, z0c, z0b, z0e, z0z, z0y, z0x, z0w, z10, z19, z1s, z0h, z0j, z0i, z0k, z1c, z1i, z1j, z1l, z1k, z1m, z1g, z0m, z0n, z07, z06, z05, z04, z08, z11, z1n, z12, z13, z1h, z1t, z3u, z3x, z1x, z1y, z3h, z3i, z3r, z3s, z3j, z3k, z3m, z3o, z3q, z3t, z3n, z2p, z2s, z37, z2k, z24, z25, z30, z2t, z31, z2f, z32, z2e, z2d, z3g, z3f, z2m, z2n, z2u, z2j, z2x, z35, z2l, z3a, z38, z2i, z2q, z2y, z36, z2o, z40, z41, z3y, z45, z42, z43, z3b, z3c, z47, z1w, z3d, z46, yy0, yy1, yy2, yy3, yy4, yy5, z00, z02, z01, z03, z1v, z1u, z1z, z22, z20, z21, z2a, z28, z29, z27, z26, z2b, theGlobs, yy8, yy9, yy6, ne_eq, yy7, Nat.reduceAdd, Nat.reduceLT, if_true]
      exact fin _ _ _
noncomputable abbrev bitsBody2 : Sts := .cons (.aug 8 .add (.bin .shl (.item (.var 4) (.var 9)) (.var 9))) .nil
theorem bits_loop2 {Q : Flw → Vars → AH → Prop} {a : AObj} {P : Nat → Bool} {N : Nat} {vs0 : List PV} {x y z : Int} (hN : N ≤ 64) : ∀ (m k : Nat) (v1 v2 v3 v4 v5 v6 v7 v9 : Option PV), k + m = N →
    (∀ v9, Q .next [v1, v2, v3, v4, some (.loc (H.length + 1)), v5, v6, v7, some (.int (bsum P N : Nat)), v9] (H ++ [a, .list (mk P N)])) →
    wpF n (.rng x y z) vs0 [9] bitsBody2 (rngList (k : Int) 1 m) [v1, v2, v3, v4, some (.loc (H.length + 1)), v5, v6, v7, some (.int (bsum P k : Nat)), v9] (H ++ [a, .list (mk P N)]) Q
  | 0, k, v1, v2, v3, v4, v5, v6, v7, v9, hk, q => by
    rw [Nat.add_zero] at hk; subst hk
    rw [rngList]; refine wpF_nil ?_
    exact ⟨rfl, q _⟩
  | m + 1, k, v1, v2, v3, v4, v5, v6, v7, v9, hk, q => by
    have nx := fun v9 => bits_loop2 (Q := Q) (a := a) (P := P) (vs0 := vs0) (x := x) (y := y) (z := z) hN m (k + 1) v1 v2 v3 v4 v5 v6 v7 v9 (by lia) q
    rw [rng_cons]; refine wpF_cons ?_
    refine ⟨rfl, ?_⟩
    have e1 : vGetItem (H ++ [a, .list (mk P N)]) (.loc (H.length + 1)) (.int k) = some (.int (if P k = true then 1 else 0)) := by
      have e0 : (H ++ [a, .list (mk P N)])[H.length + 1]? = some (.list (mk P N)) := by simp
      have e2 : (k : Int) < 1000000 := by lia
      simp [vGetItem, unpk, items, e2, mk_get (P := P) (show k < N by lia)]
    have m1 : (decide ((0 : Int) ≤ (k : Int)) && decide ((k : Int) ≤ 1000000) && small (if P k = true then 1 else 0)) = true := by
      have h1 : decide ((0 : Int) ≤ (k : Int)) = true := decide_eq_true (by lia)
      have h2 : decide ((k : Int) ≤ 1000000) = true := decide_eq_true (by lia)
      rw [h1, h2]; split <;> rfl
    simp only [bindT_one, bindT_tup, setAll_cons, setAll_nil, og_t, decide_true, z14, z1q, z1r, z1d, z0p, z1a, z15, z1b, z0a, z09, z1f, z1e, z0o, z0u, z0v, z0s, z0r, z0q, z16, z0l, z17, z18, z1o, z1p, z0t, z0g, z0f, z0d, z0c, z0b, z0e, z0z, z0y, z0x, z0w, z10, z19, z1s, z0h, z0j, z0i, z0k, z1c, z1i, z1j, z1l, z1k, z1m, z1g, z0m, z0n, z07, z06, z05, z04, z08, z11, z1n, z12, z13, z1h, z1t, z3u, z3x, z1x, z1y, z3h, z3i, z3r, z3s, z3j, z3k, z3m, z3o, z3q, z3t, z3n, z2p, z2s, z37, z2k, z24, z25, z30, z2t, z31, z2f, z32, z2e, z2d, z3g, z3f, z2m, z2n, z2u, z2j, z2x, z35, z2l, z3a, z38, z2i, z2q, z2y, z36, z2o, z40, z41, z3y, z45, z42, z43, z3b, z3c, z47, z1w, z3d, z46, yy0, yy1, yy2, yy3, yy4, yy5, z00, z02, z01, z03, z1v, z1u, z1z, z22, z20, z21, z2a, z28, z29, z27, z26, z2b, theGlobs, yy8, yy9, yy6, ne_eq, yy7, Nat.reduceAdd, Nat.reduceLT, if_true, bitsBody2, e1, wb_shl, m1, Int.toNat_natCast, bsum_step]
    exact nx _
theorem ev_law_bits (S : Shape F R) {pl : PV} {L : List (Int × Int)} (hs : Src H pl (pvs L)) (hL : ∀ p ∈ L, OnB F R p) (hl : L.length ≤ 1000) :
    ∃ E, run (n+1) 28 [.int F, .int R, .int sd, pl] H = some (.int (lawN F R sd L : Nat), H ++ E) := by
  refine ⟨[.list [.int 0], .list (mk (inL F R sd L) (F * R))], ?_⟩
  refine wpO_eq (wp_run (d := d_law_bits) rfl rfl ?_)
  show wpSs n d_law_bits.body [some (.int F), some (.int R), some (.int sd), some pl, none, none, none, none, none, none] H _
  have hsz := S.sz
  have hR := S.r8; have hF := S.f8
  have m1 : ∀ y, (small (F : Int) || small y) = true := fun y => by rw [smallF (by lia)]; simp
  have e1 : ∀ E : AH, items (H ++ E) pl = some (pvs L) := fun E => (hs _ (List.prefix_append _ _)).1
  have e2 : ∀ E : AH, source (H ++ E) pl = some (pvs L) := fun E => (hs _ (List.prefix_append _ _)).2.1
  simp only [d_law_bits, z14, z1q, z1r, z1d, z0p, z1a, z15, z1b, z0a, z09, z1f, z1e, z0o, z0u, z0v, z0s, z0r, z0q, z16, z0l, z17, z18, z1o, z1p, z0t, z0g, z0f, z0d, z0c, z0b, z0e, z0z, z0y, z0x, z0w, z10, z19, z1s, z0h, z0j, z0i, z0k, z1c, z1i, z1j, z1l, z1k, z1m, z1g, z0m, z0n, z07, z06, z05, z04, z08, z11, z1n, z12, z13, z1h, z1t, z3u, z3x, z1x, z1y, z3h, z3i, z3r, z3s, z3j, z3k, z3m, z3o, z3q, z3t, z3n, z2p, z2s, z37, z2k, z24, z25, z30, z2t, z31, z2f, z32, z2e, z2d, z3g, z3f, z2m, z2n, z2u, z2j, z2x, z35, z2l, z3a, z38, z2i, z2q, z2y, z36, z2o, z40, z41, z3y, z45, z42, z43, z3b, z3c, z47, z1w, z3d, z46, yy0, yy1, yy2, yy3, yy4, yy5, z00, z02, z01, z03, z1v, z1u, z1z, z22, z20, z21, z2a, z28, z29, z27, z26, z2b, theGlobs, yy8, yy9, yy6, ne_eq, yy7, Nat.reduceAdd, Nat.reduceLT, if_true, wb_mul, m1, ← Int.natCast_mul, wb_rep (show F * R ≤ 1000 by lia), Nat.reduceLeDiff, e2]
  refine ⟨by rw [pvs, List.length_map]; exact hl, ?_⟩
  rw [mk_rep]
  refine bits_loop1 S hs L _ _ _ _ _ _ hL fun o1 o2 o3 => ?_
  have e3 : ∀ H : AH, callB (run n) inits .range1 [.int (F * R : Nat)] H = some (.rng 0 (F * R : Nat) 1, H) := fun H => by
    exact cb_r1 (by simp [okRng]; lia)
  have e4 : ∀ H : AH, source H (.rng 0 (F * R : Nat) 1) = some (rngList 0 1 (F * R)) := fun H => by
    have : okRng 0 (F * R : Nat) 1 = true := by simp [okRng]; lia
    simp only [source, this, if_true, rngSize]
    congr 2
  have e5 : ∀ m : Nat, ∀ a c : Int, (rngList a c m).length = m := by
    intro m; induction m with
    | zero => intro a c; rfl
    | succ m ih => intro a c; simp [rngList, ih]
  simp only [z14, z1q, z1r, z1d, z0p, z1a, z15, z1b, z0a, z09, z1f, z1e, z0o, z0u, z0v, z0s, z0r, z0q, z16, z0l, z17, z18, z1o, z1p, z0t, z0g, z0f, z0d, z0c, z0b, z0e, z0z, z0y, z0x, z0w, z10, z19, z1s, z0h, z0j, z0i, z0k, z1c, z1i, z1j, z1l, z1k, z1m, z1g, z0m, z0n, z07, z06, z05, z04, z08, z11, z1n, z12, z13, z1h, z1t, z3u, z3x, z1x, z1y, z3h, z3i, z3r, z3s, z3j, z3k, z3m, z3o, z3q, z3t, z3n, z2p, z2s, z37, z2k, z24, z25, z30, z2t, z31, z2f, z32, z2e, z2d, z3g, z3f, z2m, z2n, z2u, z2j, z2x, z35, z2l, z3a, z38, z2i, z2q, z2y, z36, z2o, z40, z41, z3y, z45, z42, z43, z3b, z3c, z47, z1w, z3d, z46, yy0, yy1, yy2, yy3, yy4, yy5, z00, z02, z01, z03, z1v, z1u, z1z, z22, z20, z21, z2a, z28, z29, z27, z26, z2b, theGlobs, yy8, yy9, yy6, ne_eq, yy7, Nat.reduceAdd, Nat.reduceLT, if_true, wb_mul, m1, ← Int.natCast_mul, e3, e4, e5, Bool.false_or]
  refine ⟨by lia, ?_⟩
  refine bits_loop2 (k := 0) (P := inL F R sd L) hsz (F * R) _ _ _ _ _ _ _ _ (by lia) fun v9 => ?_
  simp only [z14, z1q, z1r, z1d, z0p, z1a, z15, z1b, z0a, z09, z1f, z1e, z0o, z0u, z0v, z0s, z0r, z0q, z16, z0l, z17, z18, z1o, z1p, z0t, z0g, z0f, z0d, z0c, z0b, z0e, z0z, z0y, z0x, z0w, z10, z19, z1s, z0h, z0j, z0i, z0k, z1c, z1i, z1j, z1l, z1k, z1m, z1g, z0m, z0n, z07, z06, z05, z04, z08, z11, z1n, z12, z13, z1h, z1t, z3u, z3x, z1x, z1y, z3h, z3i, z3r, z3s, z3j, z3k, z3m, z3o, z3q, z3t, z3n, z2p, z2s, z37, z2k, z24, z25, z30, z2t, z31, z2f, z32, z2e, z2d, z3g, z3f, z2m, z2n, z2u, z2j, z2x, z35, z2l, z3a, z38, z2i, z2q, z2y, z36, z2o, z40, z41, z3y, z45, z42, z43, z3b, z3c, z47, z1w, z3d, z46, yy0, yy1, yy2, yy3, yy4, yy5, z00, z02, z01, z03, z1v, z1u, z1z, z22, z20, z21, z2a, z28, z29, z27, z26, z2b, theGlobs, yy8, yy9, yy6, ne_eq, yy7, Nat.reduceAdd, Nat.reduceLT, if_true]
  rfl
end
end Mine
end

section
set_option linter.unusedSimpArgs false
set_option maxRecDepth 100000
namespace Mine
open PySem.Builtin

noncomputable def cells (g : Int) : Int → Nat → List (Int × Int)
  | _, 0 => []
  | a, m + 1 => (g, a) :: cells g (a + 1) m
theorem cells_len {g : Int} : ∀ {m : Nat} {a : Int}, (cells g a m).length = m
  | 0, _ => rfl
  | m + 1, a => by rw [cells, yy0, cells_len]
theorem mem_cells {g : Int} {p : Int × Int} : ∀ {m : Nat} {a : Int}, p ∈ cells g a m ↔ p.1 = g ∧ a ≤ p.2 ∧ p.2 < a + m
  | 0, a => by
    constructor
    · intro h; cases h
    · rintro ⟨_, h2, h3⟩; exfalso; simp at h3; lia
  | m + 1, a => by
    rw [cells, List.mem_cons, mem_cells]
    constructor
    · rintro (rfl | ⟨h1, h2, h3⟩)
      · simp; lia
      · lia
    · rintro ⟨h1, h2, h3⟩
      by_cases e : p.2 = a
      · left; exact Prod.ext h1 e
      · right; lia
noncomputable def row (F : Nat) (g a : Int) (m : Nat) : List (Int × Int) := if 0 ≤ g ∧ g < F then cells g a m else []
noncomputable def minI (a b : Int) : Int := if b < a then b else a
noncomputable def cnt (R : Nat) (most r : Int) : Nat := (minI R (r + 1 + most) - (r + 1)).toNat
noncomputable def aheadP (F R : Nat) (most : Int) (p : Int × Int) : List (Int × Int) := row F (p.1 - 1) (p.2 + 1) (cnt R most p.2) ++ row F (p.1 + 1) (p.2 + 1) (cnt R most p.2)
noncomputable def ahead (F R : Nat) (most : Int) (L : List (Int × Int)) : List (Int × Int) := L.flatMap (aheadP F R most)
theorem row_len {F : Nat} {g a : Int} {m : Nat} : (row F g a m).length ≤ m := by
  unfold row; split
  · rw [cells_len]; exact Nat.le_refl m
  · exact Nat.zero_le m
section
variable {n F R : Nat} {most : Int} {H : AH}
theorem mid_get {vs : List PV} : (H ++ [AObj.list vs])[H.length]? = some (.list vs) := by simp
theorem mid_set {vs : List PV} {o : AObj} : (H ++ [AObj.list vs]).set H.length o = H ++ [o] := by simp
noncomputable abbrev aheadIn : Sts := .cons (.ite (.cmp2 .le .lt (.const (.int 0)) (.var 7) (.var 0)) (.cons (.expr (.append (.var 4) (.tuple (.cons (.var 7) (.cons (.var 8) .nil))))) .nil) .nil) .nil
theorem ahead_in {Q : Flw → Vars → AH → Prop} {x y z g : Int} {vs0 : List PV} {v1 v2 v3 v5 v6 : Option PV} : ∀ (m : Nat) (a : Int) (acc : List (Int × Int)) (v8 : Option PV), acc.length + m ≤ 1000 →
    (∀ v8, Q .next [some (.int F), v1, v2, v3, some (.loc H.length), v5, v6, some (.int g), v8] (H ++ [.list (pvs (acc ++ row F g a m))])) →
    wpF n (.rng x y z) vs0 [8] aheadIn (rngList a 1 m) [some (.int F), v1, v2, v3, some (.loc H.length), v5, v6, some (.int g), v8] (H ++ [.list (pvs acc)]) Q
  | 0, a, acc, v8, hl, q => by
    rw [rngList]; refine wpF_nil ?_
    have := q v8
    have e : row F g a 0 = [] := by unfold row; split <;> rfl
    rw [e, List.append_nil] at this
    exact ⟨rfl, this⟩
  | m + 1, a, acc, v8, hl, q => by
    have nx := fun acc v8 h q => ahead_in (Q := Q) (x := x) (y := y) (z := z) (g := g) (vs0 := vs0) (v1 := v1) (v2 := v2) (v3 := v3) (v5 := v5) (v6 := v6) m (a + 1) acc v8 h q
    rw [rngList]; refine wpF_cons ?_
    refine ⟨rfl, ?_⟩
    have hlen : (pvs acc).length ≤ 1000 := by rw [pvs, List.length_map]; lia
    have e0 : pvs acc ++ [PV.tup [.int g, .int a]] = pvs (acc ++ [(g, a)]) := by simp [pvs]
    simp only [bindT_one, bindT_tup, setAll_cons, setAll_nil, og_t, decide_true, z14, z1q, z1r, z1d, z0p, z1a, z15, z1b, z0a, z09, z1f, z1e, z0o, z0u, z0v, z0s, z0r, z0q, z16, z0l, z17, z18, z1o, z1p, z0t, z0g, z0f, z0d, z0c, z0b, z0e, z0z, z0y, z0x, z0w, z10, z19, z1s, z0h, z0j, z0i, z0k, z1c, z1i, z1j, z1l, z1k, z1m, z1g, z0m, z0n, z07, z06, z05, z04, z08, z11, z1n, z12, z13, z1h, z1t, z3u, z3x, z1x, z1y, z3h, z3i, z3r, z3s, z3j, z3k, z3m, z3o, z3q, z3t, z3n, z2p, z2s, z37, z2k, z24, z25, z30, z2t, z31, z2f, z32, z2e, z2d, z3g, z3f, z2m, z2n, z2u, z2j, z2x, z35, z2l, z3a, z38, z2i, z2q, z2y, z36, z2o, z40, z41, z3y, z45, z42, z43, z3b, z3c, z47, z1w, z3d, z46, yy0, yy1, yy2, yy3, yy4, yy5, z00, z02, z01, z03, z1v, z1u, z1z, z22, z20, z21, z2a, z28, z29, z27, z26, z2b, theGlobs, yy8, yy9, yy6, ne_eq, yy7, Nat.reduceAdd, Nat.reduceLT, if_true, aheadIn, wpL_loc mid_get, mid_set, e0, Nat.reduceLeDiff, hlen]
    by_cases h0 : 0 ≤ g
    · rw [if_pos h0]
      by_cases h1 : g < F
      · rw [if_pos h1]
        refine nx (acc ++ [(g, a)]) _ (by rw [List.length_append, List.length_singleton]; lia) fun v8 => ?_
        have := q v8
        have e : row F g a (m + 1) = (g, a) :: row F g (a + 1) m := by unfold row; rw [if_pos ⟨h0, h1⟩, if_pos ⟨h0, h1⟩, cells]
        rw [e] at this
        rw [List.append_assoc]
        exact this
      · rw [if_neg h1]
        refine nx _ _ (by lia) fun v8 => ?_
        have := q v8
        have e : ∀ a m, row F g a m = [] := fun a m => by unfold row; rw [if_neg (fun q => h1 q.2)]
        rw [e] at this ⊢
        exact this
    · rw [if_neg h0]
      simp only [z14, z1q, z1r, z1d, z0p, z1a, z15, z1b, z0a, z09, z1f, z1e, z0o, z0u, z0v, z0s, z0r, z0q, z16, z0l, z17, z18, z1o, z1p, z0t, z0g, z0f, z0d, z0c, z0b, z0e, z0z, z0y, z0x, z0w, z10, z19, z1s, z0h, z0j, z0i, z0k, z1c, z1i, z1j, z1l, z1k, z1m, z1g, z0m, z0n, z07, z06, z05, z04, z08, z11, z1n, z12, z13, z1h, z1t, z3u, z3x, z1x, z1y, z3h, z3i, z3r, z3s, z3j, z3k, z3m, z3o, z3q, z3t, z3n, z2p, z2s, z37, z2k, z24, z25, z30, z2t, z31, z2f, z32, z2e, z2d, z3g, z3f, z2m, z2n, z2u, z2j, z2x, z35, z2l, z3a, z38, z2i, z2q, z2y, z36, z2o, z40, z41, z3y, z45, z42, z43, z3b, z3c, z47, z1w, z3d, z46, yy0, yy1, yy2, yy3, yy4, yy5, z00, z02, z01, z03, z1v, z1u, z1z, z22, z20, z21, z2a, z28, z29, z27, z26, z2b, theGlobs, yy8, yy9, yy6, ne_eq, yy7, Nat.reduceAdd, Nat.reduceLT, if_true, Bool.false_eq_true, if_false]
      refine nx _ _ (by lia) fun v8 => ?_
      have := q v8
      have e : ∀ a m, row F g a m = [] := fun a m => by unfold row; rw [if_neg (fun q => h0 q.1)]
      rw [e] at this ⊢
      exact this
theorem cnt_le (S : Shape F R) {most r : Int} (h : 0 ≤ r) : cnt R most r ≤ 7 := by
  have := S.r8
  unfold cnt minI; split <;> lia
noncomputable abbrev aheadOut : Sts := .cons (.for [7] (.tuple (.cons (.bin .sub (.var 5) (.const (.int 1))) (.cons (.bin .add (.var 5) (.const (.int 1))) .nil)))
  (.cons (.for [8] (.call .range2 (.cons (.bin .add (.var 6) (.const (.int 1))) (.cons (.call .min2 (.cons (.var 1) (.cons (.bin .add (.bin .add (.var 6) (.const (.int 1))) (.var 3)) .nil))) .nil))) aheadIn) .nil)) .nil
theorem rngList_len : ∀ {m : Nat} {a c : Int}, (rngList a c m).length = m
  | 0, _, _ => rfl
  | m + 1, a, c => by rw [rngList, yy0, rngList_len]
theorem ahead_out (S : Shape F R) (hm : 0 ≤ most ∧ most ≤ 8) {Q : Flw → Vars → AH → Prop} {pl : PV} {L : List (Int × Int)} (hs : Src H pl (pvs L)) : ∀ (r : List (Int × Int)) (acc : List (Int × Int)) (v5 v6 v7 v8 : Option PV), (∀ p ∈ r, OnB F R p) → acc.length + 14 * r.length ≤ 1000 →
    (∀ v5 v6 v7 v8, Q .next [some (.int F), some (.int R), some pl, some (.int most), some (.loc H.length), v5, v6, v7, v8] (H ++ [.list (pvs (acc ++ ahead F R most r))])) →
    wpF n pl (pvs L) [5, 6] aheadOut (pvs r) [some (.int F), some (.int R), some pl, some (.int most), some (.loc H.length), v5, v6, v7, v8] (H ++ [.list (pvs acc)]) Q
  | [], acc, v5, v6, v7, v8, hr, hl, q => by
    rw [show pvs [] = [] from rfl]; refine wpF_nil ?_
    have := q v5 v6 v7 v8
    rw [show ahead F R most [] = [] from rfl, List.append_nil] at this
    exact ⟨(hs _ (List.prefix_append _ _)).2.2, this⟩
  | p :: r, acc, v5, v6, v7, v8, hr, hl, q => by
    have hp := hr p List.mem_cons_self
    have nx := fun acc v5 v6 v7 v8 h q => ahead_out S hm (Q := Q) hs r acc v5 v6 v7 v8 (fun s hs => hr s (List.mem_cons_of_mem _ hs)) h q
    rw [show pvs (p :: r) = .tup [.int p.1, .int p.2] :: pvs r from rfl]; refine wpF_cons ?_
    refine ⟨(hs _ (List.prefix_append _ _)).2.2, ?_⟩
    obtain ⟨b1, b2, b3, b4⟩ := hp
    have hc := cnt_le S (most := most) b3
    rw [yy0] at hl
    have hR := S.r8
    have e1 : ∀ (a b : Int) (H : AH), callB (run n) inits .min2 [.int a, .int b] H = some (.int (minI a b), H) := fun a b H => rfl
    have ho : okRng (p.2 + 1) (minI R (p.2 + 1 + most)) 1 = true := by
      unfold okRng minI
      simp only [Bool.and_eq_true, Bool.or_eq_true]
      split <;> refine ⟨⟨⟨⟨decide_eq_true ?_, decide_eq_true ?_⟩, decide_eq_true ?_⟩, decide_eq_true ?_⟩, Or.inl rfl⟩ <;> lia
    have e2 : ∀ H : AH, callB (run n) inits .range2 [.int (p.2 + 1), .int (minI R (p.2 + 1 + most))] H = some (.rng (p.2 + 1) (minI R (p.2 + 1 + most)) 1, H) := fun H => by
      exact cb_r2 ho
    have e3 : ∀ H : AH, source H (.rng (p.2 + 1) (minI R (p.2 + 1 + most)) 1) = some (rngList (p.2 + 1) 1 (cnt R most p.2)) := fun H => by
      simp only [source, ho, if_true, rngSize, cnt]
    have e4 : ∀ (H : AH) (vs : List PV), source H (.tup vs) = some vs := fun H vs => rfl
    have st : ∀ (H : AH) (vs vs' : List PV), stays (.tup vs) vs' H = true := fun H vs vs' => rfl
    simp only [bindT_one, bindT_tup, setAll_cons, setAll_nil, og_t, decide_true, z14, z1q, z1r, z1d, z0p, z1a, z15, z1b, z0a, z09, z1f, z1e, z0o, z0u, z0v, z0s, z0r, z0q, z16, z0l, z17, z18, z1o, z1p, z0t, z0g, z0f, z0d, z0c, z0b, z0e, z0z, z0y, z0x, z0w, z10, z19, z1s, z0h, z0j, z0i, z0k, z1c, z1i, z1j, z1l, z1k, z1m, z1g, z0m, z0n, z07, z06, z05, z04, z08, z11, z1n, z12, z13, z1h, z1t, z3u, z3x, z1x, z1y, z3h, z3i, z3r, z3s, z3j, z3k, z3m, z3o, z3q, z3t, z3n, z2p, z2s, z37, z2k, z24, z25, z30, z2t, z31, z2f, z32, z2e, z2d, z3g, z3f, z2m, z2n, z2u, z2j, z2x, z35, z2l, z3a, z38, z2i, z2q, z2y, z36, z2o, z40, z41, z3y, z45, z42, z43, z3b, z3c, z47, z1w, z3d, z46, yy0, yy1, yy2, yy3, yy4, yy5, z00, z02, z01, z03, z1v, z1u, z1z, z22, z20, z21, z2a, z28, z29, z27, z26, z2b, theGlobs, yy8, yy9, yy6, ne_eq, yy7, Nat.reduceAdd, Nat.reduceLT, if_true, aheadOut, e4, Nat.reduceLeDiff]
    refine wpF_cons ?_
    refine ⟨rfl, ?_⟩
    simp only [bindT_one, bindT_tup, setAll_cons, setAll_nil, og_t, decide_true, z14, z1q, z1r, z1d, z0p, z1a, z15, z1b, z0a, z09, z1f, z1e, z0o, z0u, z0v, z0s, z0r, z0q, z16, z0l, z17, z18, z1o, z1p, z0t, z0g, z0f, z0d, z0c, z0b, z0e, z0z, z0y, z0x, z0w, z10, z19, z1s, z0h, z0j, z0i, z0k, z1c, z1i, z1j, z1l, z1k, z1m, z1g, z0m, z0n, z07, z06, z05, z04, z08, z11, z1n, z12, z13, z1h, z1t, z3u, z3x, z1x, z1y, z3h, z3i, z3r, z3s, z3j, z3k, z3m, z3o, z3q, z3t, z3n, z2p, z2s, z37, z2k, z24, z25, z30, z2t, z31, z2f, z32, z2e, z2d, z3g, z3f, z2m, z2n, z2u, z2j, z2x, z35, z2l, z3a, z38, z2i, z2q, z2y, z36, z2o, z40, z41, z3y, z45, z42, z43, z3b, z3c, z47, z1w, z3d, z46, yy0, yy1, yy2, yy3, yy4, yy5, z00, z02, z01, z03, z1v, z1u, z1z, z22, z20, z21, z2a, z28, z29, z27, z26, z2b, theGlobs, yy8, yy9, yy6, ne_eq, yy7, Nat.reduceAdd, Nat.reduceLT, if_true, e1, e2, e3, rngList_len]
    refine ⟨by lia, ?_⟩
    refine ahead_in (cnt R most p.2) (p.2 + 1) acc _ (by lia) fun v8 => ?_
    simp only [z14, z1q, z1r, z1d, z0p, z1a, z15, z1b, z0a, z09, z1f, z1e, z0o, z0u, z0v, z0s, z0r, z0q, z16, z0l, z17, z18, z1o, z1p, z0t, z0g, z0f, z0d, z0c, z0b, z0e, z0z, z0y, z0x, z0w, z10, z19, z1s, z0h, z0j, z0i, z0k, z1c, z1i, z1j, z1l, z1k, z1m, z1g, z0m, z0n, z07, z06, z05, z04, z08, z11, z1n, z12, z13, z1h, z1t, z3u, z3x, z1x, z1y, z3h, z3i, z3r, z3s, z3j, z3k, z3m, z3o, z3q, z3t, z3n, z2p, z2s, z37, z2k, z24, z25, z30, z2t, z31, z2f, z32, z2e, z2d, z3g, z3f, z2m, z2n, z2u, z2j, z2x, z35, z2l, z3a, z38, z2i, z2q, z2y, z36, z2o, z40, z41, z3y, z45, z42, z43, z3b, z3c, z47, z1w, z3d, z46, yy0, yy1, yy2, yy3, yy4, yy5, z00, z02, z01, z03, z1v, z1u, z1z, z22, z20, z21, z2a, z28, z29, z27, z26, z2b, theGlobs, yy8, yy9, yy6, ne_eq, yy7, Nat.reduceAdd, Nat.reduceLT, if_true]
    refine wpF_cons ?_
    refine ⟨rfl, ?_⟩
    simp only [bindT_one, bindT_tup, setAll_cons, setAll_nil, og_t, decide_true, z14, z1q, z1r, z1d, z0p, z1a, z15, z1b, z0a, z09, z1f, z1e, z0o, z0u, z0v, z0s, z0r, z0q, z16, z0l, z17, z18, z1o, z1p, z0t, z0g, z0f, z0d, z0c, z0b, z0e, z0z, z0y, z0x, z0w, z10, z19, z1s, z0h, z0j, z0i, z0k, z1c, z1i, z1j, z1l, z1k, z1m, z1g, z0m, z0n, z07, z06, z05, z04, z08, z11, z1n, z12, z13, z1h, z1t, z3u, z3x, z1x, z1y, z3h, z3i, z3r, z3s, z3j, z3k, z3m, z3o, z3q, z3t, z3n, z2p, z2s, z37, z2k, z24, z25, z30, z2t, z31, z2f, z32, z2e, z2d, z3g, z3f, z2m, z2n, z2u, z2j, z2x, z35, z2l, z3a, z38, z2i, z2q, z2y, z36, z2o, z40, z41, z3y, z45, z42, z43, z3b, z3c, z47, z1w, z3d, z46, yy0, yy1, yy2, yy3, yy4, yy5, z00, z02, z01, z03, z1v, z1u, z1z, z22, z20, z21, z2a, z28, z29, z27, z26, z2b, theGlobs, yy8, yy9, yy6, ne_eq, yy7, Nat.reduceAdd, Nat.reduceLT, if_true, e1, e2, e3, rngList_len]
    refine ⟨by lia, ?_⟩
    have r1 := row_len (F := F) (g := p.1 - 1) (a := p.2 + 1) (m := cnt R most p.2)
    have r2 := row_len (F := F) (g := p.1 + 1) (a := p.2 + 1) (m := cnt R most p.2)
    refine ahead_in (cnt R most p.2) (p.2 + 1) (acc ++ row F (p.1 - 1) (p.2 + 1) (cnt R most p.2)) _ (by rw [List.length_append]; lia) fun v8 => ?_
    simp only [z14, z1q, z1r, z1d, z0p, z1a, z15, z1b, z0a, z09, z1f, z1e, z0o, z0u, z0v, z0s, z0r, z0q, z16, z0l, z17, z18, z1o, z1p, z0t, z0g, z0f, z0d, z0c, z0b, z0e, z0z, z0y, z0x, z0w, z10, z19, z1s, z0h, z0j, z0i, z0k, z1c, z1i, z1j, z1l, z1k, z1m, z1g, z0m, z0n, z07, z06, z05, z04, z08, z11, z1n, z12, z13, z1h, z1t, z3u, z3x, z1x, z1y, z3h, z3i, z3r, z3s, z3j, z3k, z3m, z3o, z3q, z3t, z3n, z2p, z2s, z37, z2k, z24, z25, z30, z2t, z31, z2f, z32, z2e, z2d, z3g, z3f, z2m, z2n, z2u, z2j, z2x, z35, z2l, z3a, z38, z2i, z2q, z2y, z36, z2o, z40, z41, z3y, z45, z42, z43, z3b, z3c, z47, z1w, z3d, z46, yy0, yy1, yy2, yy3, yy4, yy5, z00, z02, z01, z03, z1v, z1u, z1z, z22, z20, z21, z2a, z28, z29, z27, z26, z2b, theGlobs, yy8, yy9, yy6, ne_eq, yy7, Nat.reduceAdd, Nat.reduceLT, if_true]
    refine wpF_nil ?_
    refine ⟨rfl, ?_⟩
    simp only [z14, z1q, z1r, z1d, z0p, z1a, z15, z1b, z0a, z09, z1f, z1e, z0o, z0u, z0v, z0s, z0r, z0q, z16, z0l, z17, z18, z1o, z1p, z0t, z0g, z0f, z0d, z0c, z0b, z0e, z0z, z0y, z0x, z0w, z10, z19, z1s, z0h, z0j, z0i, z0k, z1c, z1i, z1j, z1l, z1k, z1m, z1g, z0m, z0n, z07, z06, z05, z04, z08, z11, z1n, z12, z13, z1h, z1t, z3u, z3x, z1x, z1y, z3h, z3i, z3r, z3s, z3j, z3k, z3m, z3o, z3q, z3t, z3n, z2p, z2s, z37, z2k, z24, z25, z30, z2t, z31, z2f, z32, z2e, z2d, z3g, z3f, z2m, z2n, z2u, z2j, z2x, z35, z2l, z3a, z38, z2i, z2q, z2y, z36, z2o, z40, z41, z3y, z45, z42, z43, z3b, z3c, z47, z1w, z3d, z46, yy0, yy1, yy2, yy3, yy4, yy5, z00, z02, z01, z03, z1v, z1u, z1z, z22, z20, z21, z2a, z28, z29, z27, z26, z2b, theGlobs, yy8, yy9, yy6, ne_eq, yy7, Nat.reduceAdd, Nat.reduceLT, if_true]
    refine nx _ _ _ _ _ (by rw [List.length_append, List.length_append]; lia) fun v5 v6 v7 v8 => ?_
    have := q v5 v6 v7 v8
    rw [ahead, List.flatMap_cons, aheadP, ← List.append_assoc, ← List.append_assoc] at this
    exact this
theorem ev_law_ahead (S : Shape F R) (hm : 0 ≤ most ∧ most ≤ 8) {pl : PV} {L : List (Int × Int)} (hs : Src H pl (pvs L)) (hL : ∀ p ∈ L, OnB F R p) (hl : L.length ≤ 64) :
    run (n+1) 29 [.int F, .int R, pl, .int most] H = some (.lst (pvs (ahead F R most L)), H ++ [.dead]) := by
  refine wpO_eq (wp_run (d := d_law_ahead) rfl rfl ?_)
  show wpSs n d_law_ahead.body [some (.int F), some (.int R), some pl, some (.int most), none, none, none, none, none] H _
  have e2 : ∀ E : AH, source (H ++ E) pl = some (pvs L) := fun E => (hs _ (List.prefix_append _ _)).2.1
  simp only [d_law_ahead, z14, z1q, z1r, z1d, z0p, z1a, z15, z1b, z0a, z09, z1f, z1e, z0o, z0u, z0v, z0s, z0r, z0q, z16, z0l, z17, z18, z1o, z1p, z0t, z0g, z0f, z0d, z0c, z0b, z0e, z0z, z0y, z0x, z0w, z10, z19, z1s, z0h, z0j, z0i, z0k, z1c, z1i, z1j, z1l, z1k, z1m, z1g, z0m, z0n, z07, z06, z05, z04, z08, z11, z1n, z12, z13, z1h, z1t, z3u, z3x, z1x, z1y, z3h, z3i, z3r, z3s, z3j, z3k, z3m, z3o, z3q, z3t, z3n, z2p, z2s, z37, z2k, z24, z25, z30, z2t, z31, z2f, z32, z2e, z2d, z3g, z3f, z2m, z2n, z2u, z2j, z2x, z35, z2l, z3a, z38, z2i, z2q, z2y, z36, z2o, z40, z41, z3y, z45, z42, z43, z3b, z3c, z47, z1w, z3d, z46, yy0, yy1, yy2, yy3, yy4, yy5, z00, z02, z01, z03, z1v, z1u, z1z, z22, z20, z21, z2a, z28, z29, z27, z26, z2b, theGlobs, yy8, yy9, yy6, ne_eq, yy7, Nat.reduceAdd, Nat.reduceLT, if_true, Nat.reduceLeDiff, e2]
  refine ⟨by rw [pvs, List.length_map]; lia, ?_⟩
  refine ahead_out S hm hs L [] _ _ _ _ hL (by simp; lia) fun v5 v6 v7 v8 => ?_
  simp only [z14, z1q, z1r, z1d, z0p, z1a, z15, z1b, z0a, z09, z1f, z1e, z0o, z0u, z0v, z0s, z0r, z0q, z16, z0l, z17, z18, z1o, z1p, z0t, z0g, z0f, z0d, z0c, z0b, z0e, z0z, z0y, z0x, z0w, z10, z19, z1s, z0h, z0j, z0i, z0k, z1c, z1i, z1j, z1l, z1k, z1m, z1g, z0m, z0n, z07, z06, z05, z04, z08, z11, z1n, z12, z13, z1h, z1t, z3u, z3x, z1x, z1y, z3h, z3i, z3r, z3s, z3j, z3k, z3m, z3o, z3q, z3t, z3n, z2p, z2s, z37, z2k, z24, z25, z30, z2t, z31, z2f, z32, z2e, z2d, z3g, z3f, z2m, z2n, z2u, z2j, z2x, z35, z2l, z3a, z38, z2i, z2q, z2y, z36, z2o, z40, z41, z3y, z45, z42, z43, z3b, z3c, z47, z1w, z3d, z46, yy0, yy1, yy2, yy3, yy4, yy5, z00, z02, z01, z03, z1v, z1u, z1z, z22, z20, z21, z2a, z28, z29, z27, z26, z2b, theGlobs, yy8, yy9, yy6, ne_eq, yy7, Nat.reduceAdd, Nat.reduceLT, if_true, callK, freeze, List.nil_append]
  simp
end
end Mine
end

section
set_option linter.unusedSimpArgs false
set_option maxRecDepth 100000
namespace Mine
open PySem.Builtin

section
variable {n : Nat} {H : AH} {ρ : Vars} {Q : PV → AH → Prop}
theorem comp_go {β : Type} {nt : Nat} {elt : Ex} {conds : Exs} {ρ0 : Vars} {vs0 : List PV} (xs : List β) (tp : β → PV) (ρx : β → Vars) (test : β → Bool) (val : β → PV) (x : PV) {Q : AH → Prop}
    (hs : ∀ H', H <+: H' → stays x vs0 H' = true)
    (hb : ∀ b ∈ xs, bindT (List.range nt) (tp b) ρ0 = some (ρx b))
    (ht : ∀ b ∈ xs, ∀ H', H <+: H' → ∀ Q : Bool → AH → Prop, wpTests n (ρx b) conds H' Q = Q (test b) H')
    (he : ∀ b ∈ xs, test b = true → ∀ H', H <+: H' → wpE n (ρx b) elt H' (fun v H'' => v = val b ∧ H' <+: H'')) :
    ∀ (r : List β) (acc : List PV) (E : AH), (∀ b ∈ r, b ∈ xs) → acc.length + r.length ≤ 1000 → (∀ E, Q (H ++ .list (acc ++ (r.filter test).map val) :: E)) →
    wpCo n H.length x vs0 nt ρ0 elt conds (r.map tp) (H ++ .list acc :: E) Q
  | [], acc, E, hr, hl, q => by
    have := q E
    rw [List.filter_nil, List.map_nil, List.append_nil] at this
    exact wpCo_nil (hs _ (List.prefix_append _ _)) this
  | b :: r, acc, E, hr, hl, q => by
    have hbx := hr b List.mem_cons_self
    have nx := fun acc E h q => comp_go xs tp ρx test val x (Q := Q) hs hb ht he r acc E (fun b h => hr b (List.mem_cons_of_mem _ h)) h q
    rw [yy0] at hl
    refine wpCo_cons (hs _ (List.prefix_append _ _)) (hb b hbx) ?_
    rw [ht b hbx _ (List.prefix_append _ _)]
    by_cases h : test b = true
    · rw [if_pos h]
      refine z2z (he b hbx h _ (List.prefix_append _ _)) ?_
      rintro v H'' ⟨rfl, E2, rfl⟩
      rw [List.append_assoc, List.cons_append, wpL_loc (vs := acc) (by simp)]
      refine ⟨by lia, ?_⟩
      have e : (H ++ .list acc :: (E ++ E2)).set H.length (.list (acc ++ [val b])) = H ++ .list (acc ++ [val b]) :: (E ++ E2) := by simp
      rw [e]
      refine nx _ _ (by rw [List.length_append, List.length_singleton]; lia) fun E3 => ?_
      have := q E3
      rw [List.filter_cons, if_pos h, List.map_cons] at this
      rw [List.append_assoc]
      exact this
    · rw [if_neg h]
      refine nx _ _ (by lia) fun E3 => ?_
      have := q E3
      rw [List.filter_cons, if_neg h] at this
      exact this
theorem comp_ok {β : Type} {nt : Nat} {caps : List Nat} {elt iter : Ex} {conds : Exs} (xs : List β) (tp : β → PV) (ρx : β → Vars) (test : β → Bool) (val : β → PV) (x : PV)
    (hi : ∀ Q : PV → AH → Prop, wpE n ρ iter H Q = Q x H) (hs : Src H x (xs.map tp)) (hl : xs.length ≤ 1000)
    (hb : ∀ b ∈ xs, bindT (List.range nt) (tp b) (List.replicate nt none ++ caps.map fun i => (ρ[i]?).join) = some (ρx b))
    (ht : ∀ b ∈ xs, ∀ H', H <+: H' → ∀ Q : Bool → AH → Prop, wpTests n (ρx b) conds H' Q = Q (test b) H')
    (he : ∀ b ∈ xs, test b = true → ∀ H', H <+: H' → wpE n (ρx b) elt H' (fun v H'' => v = val b ∧ H' <+: H''))
    (h : ∀ E, Q (.lst ((xs.filter test).map val)) (H ++ E)) : wpE n ρ (.comp nt caps elt iter conds) H Q := by
  rw [z2o, hi, (hs H (List.prefix_refl _)).2.1, z47]
  refine ⟨by rw [List.length_map]; exact hl, ?_⟩
  refine comp_go (E := []) xs tp ρx test val x (fun H' hp => (hs H' hp).2.2) hb ht he xs [] (fun _ h => h) (by simpa using hl) fun E => ?_
  rw [List.nil_append, wpL_loc (vs := (xs.filter test).map val) (by simp)]
  have e : (H ++ .list ((xs.filter test).map val) :: E).set H.length .dead = H ++ .dead :: E := by simp
  rw [e]
  exact h _
theorem z2g {a b : Ex} {x y : Bool} (h1 : ∀ Q : PV → AH → Prop, wpE n ρ a H Q = Q (.bool x) H) (h2 : ∀ Q : PV → AH → Prop, wpE n ρ b H Q = Q (.bool y) H) : wpE n ρ (.and (.cons a (.cons b .nil))) H Q = Q (.bool (x && y)) H := by
  rw [z2f, z2d, h1, z0a, z42, z09, z2e, h2]; cases x <;> simp
theorem z2h {a b c : Ex} {x y z : Bool} (h1 : ∀ Q : PV → AH → Prop, wpE n ρ a H Q = Q (.bool x) H) (h2 : ∀ Q : PV → AH → Prop, wpE n ρ b H Q = Q (.bool y) H) (h3 : ∀ Q : PV → AH → Prop, wpE n ρ c H Q = Q (.bool z) H) :
    wpE n ρ (.and (.cons a (.cons b (.cons c .nil)))) H Q = Q (.bool (x && (y && z))) H := by
  rw [z2f, z2d, h1, z0a, z42, z09, z2d, h2, z0a, z42, z09, z2e, h3]; cases x <;> cases y <;> simp
theorem z33 {a b : Ex} {x y : Bool} (h1 : ∀ Q : PV → AH → Prop, wpE n ρ a H Q = Q (.bool x) H) (h2 : ∀ Q : PV → AH → Prop, wpE n ρ b H Q = Q (.bool y) H) : wpE n ρ (.or (.cons a (.cons b .nil))) H Q = Q (.bool (x || y)) H := by
  rw [z32, z3f, h1, z1f, z42, z1e, z3g, h2]; cases x <;> simp
theorem z34 {a b c : Ex} {x y z : Bool} (h1 : ∀ Q : PV → AH → Prop, wpE n ρ a H Q = Q (.bool x) H) (h2 : ∀ Q : PV → AH → Prop, wpE n ρ b H Q = Q (.bool y) H) (h3 : ∀ Q : PV → AH → Prop, wpE n ρ c H Q = Q (.bool z) H) :
    wpE n ρ (.or (.cons a (.cons b (.cons c .nil)))) H Q = Q (.bool (x || (y || z))) H := by
  rw [z32, z3f, h1, z1f, z42, z1e, z3f, h2, z1f, z42, z1e, z3g, h3]; cases x <;> cases y <;> simp
theorem ints_ivs : ∀ l : List Int, ints? (ivs l) = some l
  | [] => rfl
  | i :: l => by
    have := ints_ivs l
    show ints? (.int i :: ivs l) = _
    show oo (ints? (ivs l)) _ = _
    rw [this]; rfl
theorem pairs_pvs : ∀ l : List (Int × Int), pairs? (pvs l) = some l
  | [] => rfl
  | p :: l => by
    have := pairs_pvs l
    show pairs? (.tup [.int p.1, .int p.2] :: pvs l) = _
    show oo (pairs? (pvs l)) _ = _
    rw [this]; rfl
theorem wc_inI {i : Int} {l : List Int} {Q : Bool → Prop} : wpX (cmpop H .isin (.int i) (.lst (ivs l))) Q = Q (decide (i ∈ l)) := by
  show wpX (oo (ints? (ivs l)) fun a => some (decide (i ∈ a))) Q = _
  rw [ints_ivs]; exact z47
theorem wc_inP {i j : Int} {v : PV} {M : List (Int × Int)} {Q : Bool → Prop} (h : items H v = some (pvs M)) : wpX (cmpop H .isin (.tup [.int i, .int j]) v) Q = Q (decide ((i, j) ∈ M)) := by
  show wpX (oo (items H v) fun a => oo (pairs? a) fun a => some (decide ((i, j) ∈ a))) Q = _
  rw [h]
  show wpX (oo (pairs? (pvs M)) _) Q = _
  rw [pairs_pvs]; exact z47
theorem cb_len {vs : List PV} (h : vs.length ≤ 1000) : callB (run n) inits .len [.lst vs] H = some (.int vs.length, H) := cb_len' rfl h
theorem ext_of {o : Option (PV × AH)} {X : PV} (h : wpO o fun v H' => v = X ∧ H <+: H') : ∃ E, o = some (X, H ++ E) := by
  obtain ⟨v, H', e, rfl, E, rfl⟩ := wpO_inv h
  exact ⟨E, e⟩
theorem callK_fresh {m : Nat} {vs : List PV} (hm : m ≤ H.length) : callK m Q (.ret (.loc H.length)) ρ (H ++ [.list vs]) = Q (.lst vs) (H ++ [.dead]) := by
  simp [callK, freeze, hm]
end

noncomputable def absI (a : Int) : Int := if a < 0 then -a else a
noncomputable def besideL (f : Int) (L : List (Int × Int)) : List Int := (L.filter fun p => decide (absI (p.1 - f) = 1)).map fun p => p.2
noncomputable def guardsL (f r : Int) (M : List (Int × Int)) : List Int := (M.filter fun p => decide (absI (p.1 - f) = 1) && decide (r < p.2)).map fun p => p.2
noncomputable def sameL (f r : Int) (M : List (Int × Int)) : List Int := (M.filter fun p => decide (p.1 = f) && decide (r < p.2)).map fun p => p.2
noncomputable def helpersL (f r : Int) (L : List (Int × Int)) : List Int := (besideL f L).filter fun q => decide (q ≤ r)
noncomputable def lwIso (f : Int) (L : List (Int × Int)) : Bool := decide (((besideL f L).length : Int) = 0)
noncomputable def lwSame (f r : Int) (L : List (Int × Int)) : Bool := decide (0 < ((sameL f r L).length : Int))
noncomputable def lwStop (f r : Int) (M : List (Int × Int)) : Bool := decide ((f, r + 1) ∈ M) || (decide ((f - 1, r + 2) ∈ M) || decide ((f + 1, r + 2) ∈ M))
noncomputable def lwBack (f r : Int) (L M : List (Int × Int)) : Bool := !lwIso f L && (decide (((helpersL f r L).length : Int) = 0) && lwStop f r M)
noncomputable def lwConn (f r : Int) (L : List (Int × Int)) : Bool := decide (r ∈ besideL f L) || decide (r - 1 ∈ besideL f L)
noncomputable def lwLone (f r : Int) (L M : List (Int × Int)) : Bool := !lwSame f r L && !lwSame f r M
noncomputable def lwPass (f r : Int) (L M : List (Int × Int)) : Bool := lwLone f r L M && decide (((guardsL f r M).length : Int) = 0)
noncomputable def lwCand (f r : Int) (L M : List (Int × Int)) : Bool := lwLone f r L M && (decide (0 < ((guardsL f r M).length : Int)) && decide (((guardsL f r M).length : Int) ≤ (helpersL f r L).length))
noncomputable def lawPawn (f r : Int) (L M : List (Int × Int)) : List Bool := [lwIso f L, lwSame f r L, lwBack f r L M, lwConn f r L, lwSame f r M, lwPass f r L M, lwCand f r L M]
noncomputable def bvs (l : List Bool) : List PV := l.map fun b => .bool b
theorem filter_map_len {α β : Type} {l : List α} {t : α → Bool} {v : α → β} {N : Nat} (h : l.length ≤ N) : ((l.filter t).map v).length ≤ N := by
  rw [List.length_map]; exact Nat.le_trans (List.length_filter_le _ _) h

section
variable {n : Nat} {H : AH}
theorem cb_abs {x : Int} : callB (run n) inits .abs [.int x] H = some (.int (absI x), H) := rfl
theorem ev_law_pawn {f r : Int} {ov fv : PV} {L M : List (Int × Int)} (ho : Src H ov (pvs L)) (hf : Src H fv (pvs M)) (hl : L.length ≤ 64) (hm : M.length ≤ 64) :
    ∃ E, run (n+1) 30 [.int f, .int r, ov, fv] H = some (.lst (bvs (lawPawn f r L M)), H ++ E) := by
  refine ext_of (wp_run (d := d_law_pawn) rfl rfl ?_)
  show wpSs n d_law_pawn.body [some (.int f), some (.int r), some ov, some fv, none, none, none, none, none, none, none, none, none, none, none, none] H _
  have iv : ∀ l : List Int, (ivs l).length = l.length := fun l => by rw [ivs, List.length_map]
  simp only [d_law_pawn, z14, z1q, z1r, z1d, z0p, z1a, z15, z1b, z0a, z09, z1f, z1e, z0o, z0u, z0v, z0s, z0r, z0q, z16, z0l, z17, z18, z1o, z1p, z0t, z0g, z0f, z0d, z0c, z0b, z0e, z0z, z0y, z0x, z0w, z10, z19, z1s, z0h, z0j, z0i, z0k, z1c, z1i, z1j, z1l, z1k, z1m, z1g, z0m, z0n, z07, z06, z05, z04, z08, z11, z1n, z12, z13, z1h, z1t, z3u, z3x, z1x, z1y, z3h, z3i, z3r, z3s, z3j, z3k, z3m, z3o, z3q, z3t, z3n, z2p, z2s, z37, z2k, z24, z25, z30, z2t, z31, z2e, z2d, z3g, z3f, z2m, z2n, z2u, z2j, z2x, z35, z2l, z3a, z38, z2i, z2q, z2y, z36, z40, z41, z3y, z45, z42, z43, z3b, z3c, z47, z1w, z3d, z46, yy0, yy1, yy2, yy3, yy4, yy5, z00, z02, z01, z03, z1v, z1u, z1z, z22, z20, z21, z2a, z28, z29, z27, z26, z2b, theGlobs, yy8, yy9, yy6, ne_eq, yy7, Nat.reduceAdd, Nat.reduceLT, if_true]
  refine comp_ok L (fun p => .tup [.int p.1, .int p.2]) (fun p => [some (.int p.1), some (.int p.2), some (.int f)]) (fun p => decide (absI (p.1 - f) = 1)) (fun p => .int p.2) ov (fun Q => by simp only [z14, z1q, z1r, z1d, z0p, z1a, z15, z1b, z0a, z09, z1f, z1e, z0o, z0u, z0v, z0s, z0r, z0q, z16, z0l, z17, z18, z1o, z1p, z0t, z0g, z0f, z0d, z0c, z0b, z0e, z0z, z0y, z0x, z0w, z10, z19, z1s, z0h, z0j, z0i, z0k, z1c, z1i, z1j, z1l, z1k, z1m, z1g, z0m, z0n, z07, z06, z05, z04, z08, z11, z1n, z12, z13, z1h, z1t, z3u, z3x, z1x, z1y, z3h, z3i, z3r, z3s, z3j, z3k, z3m, z3o, z3q, z3t, z3n, z2p, z2s, z37, z2k, z24, z25, z30, z2t, z31, z2e, z2d, z3g, z3f, z2m, z2n, z2u, z2j, z2x, z35, z2l, z3a, z38, z2i, z2q, z2y, z36, z40, z41, z3y, z45, z42, z43, z3b, z3c, z47, z1w, z3d, z46, yy0, yy1, yy2, yy3, yy4, yy5, z00, z02, z01, z03, z1v, z1u, z1z, z22, z20, z21, z2a, z28, z29, z27, z26, z2b, theGlobs, yy8, yy9, yy6, ne_eq, yy7, Nat.reduceAdd, Nat.reduceLT, if_true]) ho (by lia) (fun p _ => rfl)
    (fun p _ H' _ Q => by simp only [z14, z1q, z1r, z1d, z0p, z1a, z15, z1b, z0a, z09, z1f, z1e, z0o, z0u, z0v, z0s, z0r, z0q, z16, z0l, z17, z18, z1o, z1p, z0t, z0g, z0f, z0d, z0c, z0b, z0e, z0z, z0y, z0x, z0w, z10, z19, z1s, z0h, z0j, z0i, z0k, z1c, z1i, z1j, z1l, z1k, z1m, z1g, z0m, z0n, z07, z06, z05, z04, z08, z11, z1n, z12, z13, z1h, z1t, z3u, z3x, z1x, z1y, z3h, z3i, z3r, z3s, z3j, z3k, z3m, z3o, z3q, z3t, z3n, z2p, z2s, z37, z2k, z24, z25, z30, z2t, z31, z2e, z2d, z3g, z3f, z2m, z2n, z2u, z2j, z2x, z35, z2l, z3a, z38, z2i, z2q, z2y, z36, z40, z41, z3y, z45, z42, z43, z3b, z3c, z47, z1w, z3d, z46, yy0, yy1, yy2, yy3, yy4, yy5, z00, z02, z01, z03, z1v, z1u, z1z, z22, z20, z21, z2a, z28, z29, z27, z26, z2b, theGlobs, yy8, yy9, yy6, ne_eq, yy7, Nat.reduceAdd, Nat.reduceLT, if_true, cb_abs]) (fun p _ _ H' _ => by simp only [z14, z1q, z1r, z1d, z0p, z1a, z15, z1b, z0a, z09, z1f, z1e, z0o, z0u, z0v, z0s, z0r, z0q, z16, z0l, z17, z18, z1o, z1p, z0t, z0g, z0f, z0d, z0c, z0b, z0e, z0z, z0y, z0x, z0w, z10, z19, z1s, z0h, z0j, z0i, z0k, z1c, z1i, z1j, z1l, z1k, z1m, z1g, z0m, z0n, z07, z06, z05, z04, z08, z11, z1n, z12, z13, z1h, z1t, z3u, z3x, z1x, z1y, z3h, z3i, z3r, z3s, z3j, z3k, z3m, z3o, z3q, z3t, z3n, z2p, z2s, z37, z2k, z24, z25, z30, z2t, z31, z2e, z2d, z3g, z3f, z2m, z2n, z2u, z2j, z2x, z35, z2l, z3a, z38, z2i, z2q, z2y, z36, z40, z41, z3y, z45, z42, z43, z3b, z3c, z47, z1w, z3d, z46, yy0, yy1, yy2, yy3, yy4, yy5, z00, z02, z01, z03, z1v, z1u, z1z, z22, z20, z21, z2a, z28, z29, z27, z26, z2b, theGlobs, yy8, yy9, yy6, ne_eq, yy7, Nat.reduceAdd, Nat.reduceLT, if_true]; exact List.prefix_refl _) fun E1 => ?_
  have e4 : (L.filter fun p => decide (absI (p.1 - f) = 1)).map (fun p => PV.int p.2) = ivs (besideL f L) := by simp [ivs, besideL]
  rw [e4]
  simp only [z14, z1q, z1r, z1d, z0p, z1a, z15, z1b, z0a, z09, z1f, z1e, z0o, z0u, z0v, z0s, z0r, z0q, z16, z0l, z17, z18, z1o, z1p, z0t, z0g, z0f, z0d, z0c, z0b, z0e, z0z, z0y, z0x, z0w, z10, z19, z1s, z0h, z0j, z0i, z0k, z1c, z1i, z1j, z1l, z1k, z1m, z1g, z0m, z0n, z07, z06, z05, z04, z08, z11, z1n, z12, z13, z1h, z1t, z3u, z3x, z1x, z1y, z3h, z3i, z3r, z3s, z3j, z3k, z3m, z3o, z3q, z3t, z3n, z2p, z2s, z37, z2k, z24, z25, z30, z2t, z31, z2e, z2d, z3g, z3f, z2m, z2n, z2u, z2j, z2x, z35, z2l, z3a, z38, z2i, z2q, z2y, z36, z40, z41, z3y, z45, z42, z43, z3b, z3c, z47, z1w, z3d, z46, yy0, yy1, yy2, yy3, yy4, yy5, z00, z02, z01, z03, z1v, z1u, z1z, z22, z20, z21, z2a, z28, z29, z27, z26, z2b, theGlobs, yy8, yy9, yy6, ne_eq, yy7, Nat.reduceAdd, Nat.reduceLT, if_true]
  have ho1 := ho.pre (List.prefix_append H E1)
  have hf1 := hf.pre (List.prefix_append H E1)
  refine comp_ok M (fun p => .tup [.int p.1, .int p.2]) (fun p => [some (.int p.1), some (.int p.2), some (.int r), some (.int f)]) (fun p => decide (absI (p.1 - f) = 1) && decide (r < p.2)) (fun p => .int p.2) fv (fun Q => by simp only [z14, z1q, z1r, z1d, z0p, z1a, z15, z1b, z0a, z09, z1f, z1e, z0o, z0u, z0v, z0s, z0r, z0q, z16, z0l, z17, z18, z1o, z1p, z0t, z0g, z0f, z0d, z0c, z0b, z0e, z0z, z0y, z0x, z0w, z10, z19, z1s, z0h, z0j, z0i, z0k, z1c, z1i, z1j, z1l, z1k, z1m, z1g, z0m, z0n, z07, z06, z05, z04, z08, z11, z1n, z12, z13, z1h, z1t, z3u, z3x, z1x, z1y, z3h, z3i, z3r, z3s, z3j, z3k, z3m, z3o, z3q, z3t, z3n, z2p, z2s, z37, z2k, z24, z25, z30, z2t, z31, z2e, z2d, z3g, z3f, z2m, z2n, z2u, z2j, z2x, z35, z2l, z3a, z38, z2i, z2q, z2y, z36, z40, z41, z3y, z45, z42, z43, z3b, z3c, z47, z1w, z3d, z46, yy0, yy1, yy2, yy3, yy4, yy5, z00, z02, z01, z03, z1v, z1u, z1z, z22, z20, z21, z2a, z28, z29, z27, z26, z2b, theGlobs, yy8, yy9, yy6, ne_eq, yy7, Nat.reduceAdd, Nat.reduceLT, if_true]) hf1 (by lia) (fun p _ => rfl)
    (fun p _ H' _ Q => by
      rw [z41, z3y, z2g (x := decide (absI (p.1 - f) = 1)) (y := decide (r < p.2)) (fun Q => by simp only [z14, z1q, z1r, z1d, z0p, z1a, z15, z1b, z0a, z09, z1f, z1e, z0o, z0u, z0v, z0s, z0r, z0q, z16, z0l, z17, z18, z1o, z1p, z0t, z0g, z0f, z0d, z0c, z0b, z0e, z0z, z0y, z0x, z0w, z10, z19, z1s, z0h, z0j, z0i, z0k, z1c, z1i, z1j, z1l, z1k, z1m, z1g, z0m, z0n, z07, z06, z05, z04, z08, z11, z1n, z12, z13, z1h, z1t, z3u, z3x, z1x, z1y, z3h, z3i, z3r, z3s, z3j, z3k, z3m, z3o, z3q, z3t, z3n, z2p, z2s, z37, z2k, z24, z25, z30, z2t, z31, z2e, z2d, z3g, z3f, z2m, z2n, z2u, z2j, z2x, z35, z2l, z3a, z38, z2i, z2q, z2y, z36, z40, z41, z3y, z45, z42, z43, z3b, z3c, z47, z1w, z3d, z46, yy0, yy1, yy2, yy3, yy4, yy5, z00, z02, z01, z03, z1v, z1u, z1z, z22, z20, z21, z2a, z28, z29, z27, z26, z2b, theGlobs, yy8, yy9, yy6, ne_eq, yy7, Nat.reduceAdd, Nat.reduceLT, if_true, cb_abs]) (fun Q => by simp only [z14, z1q, z1r, z1d, z0p, z1a, z15, z1b, z0a, z09, z1f, z1e, z0o, z0u, z0v, z0s, z0r, z0q, z16, z0l, z17, z18, z1o, z1p, z0t, z0g, z0f, z0d, z0c, z0b, z0e, z0z, z0y, z0x, z0w, z10, z19, z1s, z0h, z0j, z0i, z0k, z1c, z1i, z1j, z1l, z1k, z1m, z1g, z0m, z0n, z07, z06, z05, z04, z08, z11, z1n, z12, z13, z1h, z1t, z3u, z3x, z1x, z1y, z3h, z3i, z3r, z3s, z3j, z3k, z3m, z3o, z3q, z3t, z3n, z2p, z2s, z37, z2k, z24, z25, z30, z2t, z31, z2e, z2d, z3g, z3f, z2m, z2n, z2u, z2j, z2x, z35, z2l, z3a, z38, z2i, z2q, z2y, z36, z40, z41, z3y, z45, z42, z43, z3b, z3c, z47, z1w, z3d, z46, yy0, yy1, yy2, yy3, yy4, yy5, z00, z02, z01, z03, z1v, z1u, z1z, z22, z20, z21, z2a, z28, z29, z27, z26, z2b, theGlobs, yy8, yy9, yy6, ne_eq, yy7, Nat.reduceAdd, Nat.reduceLT, if_true]), z1r, z42, z1q]) (fun p _ _ H' _ => by simp only [z14, z1q, z1r, z1d, z0p, z1a, z15, z1b, z0a, z09, z1f, z1e, z0o, z0u, z0v, z0s, z0r, z0q, z16, z0l, z17, z18, z1o, z1p, z0t, z0g, z0f, z0d, z0c, z0b, z0e, z0z, z0y, z0x, z0w, z10, z19, z1s, z0h, z0j, z0i, z0k, z1c, z1i, z1j, z1l, z1k, z1m, z1g, z0m, z0n, z07, z06, z05, z04, z08, z11, z1n, z12, z13, z1h, z1t, z3u, z3x, z1x, z1y, z3h, z3i, z3r, z3s, z3j, z3k, z3m, z3o, z3q, z3t, z3n, z2p, z2s, z37, z2k, z24, z25, z30, z2t, z31, z2e, z2d, z3g, z3f, z2m, z2n, z2u, z2j, z2x, z35, z2l, z3a, z38, z2i, z2q, z2y, z36, z40, z41, z3y, z45, z42, z43, z3b, z3c, z47, z1w, z3d, z46, yy0, yy1, yy2, yy3, yy4, yy5, z00, z02, z01, z03, z1v, z1u, z1z, z22, z20, z21, z2a, z28, z29, z27, z26, z2b, theGlobs, yy8, yy9, yy6, ne_eq, yy7, Nat.reduceAdd, Nat.reduceLT, if_true]; exact List.prefix_refl _) fun E2 => ?_
  have e5 : (M.filter fun p => decide (absI (p.1 - f) = 1) && decide (r < p.2)).map (fun p => PV.int p.2) = ivs (guardsL f r M) := by simp [ivs, guardsL]
  rw [e5]
  simp only [z14, z1q, z1r, z1d, z0p, z1a, z15, z1b, z0a, z09, z1f, z1e, z0o, z0u, z0v, z0s, z0r, z0q, z16, z0l, z17, z18, z1o, z1p, z0t, z0g, z0f, z0d, z0c, z0b, z0e, z0z, z0y, z0x, z0w, z10, z19, z1s, z0h, z0j, z0i, z0k, z1c, z1i, z1j, z1l, z1k, z1m, z1g, z0m, z0n, z07, z06, z05, z04, z08, z11, z1n, z12, z13, z1h, z1t, z3u, z3x, z1x, z1y, z3h, z3i, z3r, z3s, z3j, z3k, z3m, z3o, z3q, z3t, z3n, z2p, z2s, z37, z2k, z24, z25, z30, z2t, z31, z2e, z2d, z3g, z3f, z2m, z2n, z2u, z2j, z2x, z35, z2l, z3a, z38, z2i, z2q, z2y, z36, z40, z41, z3y, z45, z42, z43, z3b, z3c, z47, z1w, z3d, z46, yy0, yy1, yy2, yy3, yy4, yy5, z00, z02, z01, z03, z1v, z1u, z1z, z22, z20, z21, z2a, z28, z29, z27, z26, z2b, theGlobs, yy8, yy9, yy6, ne_eq, yy7, Nat.reduceAdd, Nat.reduceLT, if_true]
  have hbl : (besideL f L).length ≤ 64 := filter_map_len hl
  refine comp_ok (besideL f L) (fun q => .int q) (fun q => [some (.int q), some (.int r)]) (fun q => decide (q ≤ r)) (fun q => .int q) (.lst (ivs (besideL f L))) (fun Q => by simp only [z14, z1q, z1r, z1d, z0p, z1a, z15, z1b, z0a, z09, z1f, z1e, z0o, z0u, z0v, z0s, z0r, z0q, z16, z0l, z17, z18, z1o, z1p, z0t, z0g, z0f, z0d, z0c, z0b, z0e, z0z, z0y, z0x, z0w, z10, z19, z1s, z0h, z0j, z0i, z0k, z1c, z1i, z1j, z1l, z1k, z1m, z1g, z0m, z0n, z07, z06, z05, z04, z08, z11, z1n, z12, z13, z1h, z1t, z3u, z3x, z1x, z1y, z3h, z3i, z3r, z3s, z3j, z3k, z3m, z3o, z3q, z3t, z3n, z2p, z2s, z37, z2k, z24, z25, z30, z2t, z31, z2e, z2d, z3g, z3f, z2m, z2n, z2u, z2j, z2x, z35, z2l, z3a, z38, z2i, z2q, z2y, z36, z40, z41, z3y, z45, z42, z43, z3b, z3c, z47, z1w, z3d, z46, yy0, yy1, yy2, yy3, yy4, yy5, z00, z02, z01, z03, z1v, z1u, z1z, z22, z20, z21, z2a, z28, z29, z27, z26, z2b, theGlobs, yy8, yy9, yy6, ne_eq, yy7, Nat.reduceAdd, Nat.reduceLT, if_true]) Src.lst (by lia) (fun p _ => rfl)
    (fun p _ H' _ Q => by simp only [z14, z1q, z1r, z1d, z0p, z1a, z15, z1b, z0a, z09, z1f, z1e, z0o, z0u, z0v, z0s, z0r, z0q, z16, z0l, z17, z18, z1o, z1p, z0t, z0g, z0f, z0d, z0c, z0b, z0e, z0z, z0y, z0x, z0w, z10, z19, z1s, z0h, z0j, z0i, z0k, z1c, z1i, z1j, z1l, z1k, z1m, z1g, z0m, z0n, z07, z06, z05, z04, z08, z11, z1n, z12, z13, z1h, z1t, z3u, z3x, z1x, z1y, z3h, z3i, z3r, z3s, z3j, z3k, z3m, z3o, z3q, z3t, z3n, z2p, z2s, z37, z2k, z24, z25, z30, z2t, z31, z2e, z2d, z3g, z3f, z2m, z2n, z2u, z2j, z2x, z35, z2l, z3a, z38, z2i, z2q, z2y, z36, z40, z41, z3y, z45, z42, z43, z3b, z3c, z47, z1w, z3d, z46, yy0, yy1, yy2, yy3, yy4, yy5, z00, z02, z01, z03, z1v, z1u, z1z, z22, z20, z21, z2a, z28, z29, z27, z26, z2b, theGlobs, yy8, yy9, yy6, ne_eq, yy7, Nat.reduceAdd, Nat.reduceLT, if_true]) (fun p _ _ H' _ => by simp only [z14, z1q, z1r, z1d, z0p, z1a, z15, z1b, z0a, z09, z1f, z1e, z0o, z0u, z0v, z0s, z0r, z0q, z16, z0l, z17, z18, z1o, z1p, z0t, z0g, z0f, z0d, z0c, z0b, z0e, z0z, z0y, z0x, z0w, z10, z19, z1s, z0h, z0j, z0i, z0k, z1c, z1i, z1j, z1l, z1k, z1m, z1g, z0m, z0n, z07, z06, z05, z04, z08, z11, z1n, z12, z13, z1h, z1t, z3u, z3x, z1x, z1y, z3h, z3i, z3r, z3s, z3j, z3k, z3m, z3o, z3q, z3t, z3n, z2p, z2s, z37, z2k, z24, z25, z30, z2t, z31, z2e, z2d, z3g, z3f, z2m, z2n, z2u, z2j, z2x, z35, z2l, z3a, z38, z2i, z2q, z2y, z36, z40, z41, z3y, z45, z42, z43, z3b, z3c, z47, z1w, z3d, z46, yy0, yy1, yy2, yy3, yy4, yy5, z00, z02, z01, z03, z1v, z1u, z1z, z22, z20, z21, z2a, z28, z29, z27, z26, z2b, theGlobs, yy8, yy9, yy6, ne_eq, yy7, Nat.reduceAdd, Nat.reduceLT, if_true]; exact List.prefix_refl _) fun E3 => ?_
  have e6 : ((besideL f L).filter fun q => decide (q ≤ r)).map (fun q => PV.int q) = ivs (helpersL f r L) := rfl
  rw [e6]
  have lb : (ivs (besideL f L)).length ≤ 1000 := by rw [iv]; lia
  have lg : (ivs (guardsL f r M)).length ≤ 1000 := by rw [iv]; exact Nat.le_trans (filter_map_len hm) (by decide)
  have lh : (ivs (helpersL f r L)).length ≤ 1000 := by rw [iv]; exact Nat.le_trans (List.length_filter_le _ _) (by lia)
  have ls : ∀ (f r : Int) (L : List (Int × Int)), L.length ≤ 64 → (ivs (sameL f r L)).length ≤ 1000 := fun f r L h => by rw [iv]; exact Nat.le_trans (filter_map_len h) (by decide)
  have es : ∀ (f r : Int) (L : List (Int × Int)), (L.filter fun p => decide (p.1 = f) && decide (r < p.2)).map (fun p => PV.int p.2) = ivs (sameL f r L) := fun f r L => by simp [ivs, sameL]
  have ho3 := (ho1.pre (List.prefix_append _ E2)).pre (List.prefix_append _ E3)
  have hf3 := (hf1.pre (List.prefix_append _ E2)).pre (List.prefix_append _ E3)
  simp only [z14, z1q, z1r, z1d, z0p, z1a, z15, z1b, z0a, z09, z1f, z1e, z0o, z0u, z0v, z0s, z0r, z0q, z16, z0l, z17, z18, z1o, z1p, z0t, z0g, z0f, z0d, z0c, z0b, z0e, z0z, z0y, z0x, z0w, z10, z19, z1s, z0h, z0j, z0i, z0k, z1c, z1i, z1j, z1l, z1k, z1m, z1g, z0m, z0n, z07, z06, z05, z04, z08, z11, z1n, z12, z13, z1h, z1t, z3u, z3x, z1x, z1y, z3h, z3i, z3r, z3s, z3j, z3k, z3m, z3o, z3q, z3t, z3n, z2p, z2s, z37, z2k, z24, z25, z30, z2t, z31, z2e, z2d, z3g, z3f, z2m, z2n, z2u, z2j, z2x, z35, z2l, z3a, z38, z2i, z2q, z2y, z36, z40, z41, z3y, z45, z42, z43, z3b, z3c, z47, z1w, z3d, z46, yy0, yy1, yy2, yy3, yy4, yy5, z00, z02, z01, z03, z1v, z1u, z1z, z22, z20, z21, z2a, z28, z29, z27, z26, z2b, theGlobs, yy8, yy9, yy6, ne_eq, yy7, Nat.reduceAdd, Nat.reduceLT, if_true, cb_len lb, iv]
  refine comp_ok L (fun p => .tup [.int p.1, .int p.2]) (fun p => [some (.int p.1), some (.int p.2), some (.int f), some (.int r)]) (fun p => decide (p.1 = f) && decide (r < p.2)) (fun p => .int p.2) ov (fun Q => by simp only [z14, z1q, z1r, z1d, z0p, z1a, z15, z1b, z0a, z09, z1f, z1e, z0o, z0u, z0v, z0s, z0r, z0q, z16, z0l, z17, z18, z1o, z1p, z0t, z0g, z0f, z0d, z0c, z0b, z0e, z0z, z0y, z0x, z0w, z10, z19, z1s, z0h, z0j, z0i, z0k, z1c, z1i, z1j, z1l, z1k, z1m, z1g, z0m, z0n, z07, z06, z05, z04, z08, z11, z1n, z12, z13, z1h, z1t, z3u, z3x, z1x, z1y, z3h, z3i, z3r, z3s, z3j, z3k, z3m, z3o, z3q, z3t, z3n, z2p, z2s, z37, z2k, z24, z25, z30, z2t, z31, z2e, z2d, z3g, z3f, z2m, z2n, z2u, z2j, z2x, z35, z2l, z3a, z38, z2i, z2q, z2y, z36, z40, z41, z3y, z45, z42, z43, z3b, z3c, z47, z1w, z3d, z46, yy0, yy1, yy2, yy3, yy4, yy5, z00, z02, z01, z03, z1v, z1u, z1z, z22, z20, z21, z2a, z28, z29, z27, z26, z2b, theGlobs, yy8, yy9, yy6, ne_eq, yy7, Nat.reduceAdd, Nat.reduceLT, if_true]) ho3 (by lia) (fun p _ => rfl)
    (fun p _ H' _ Q => by
      rw [z41, z3y, z2g (x := decide (p.1 = f)) (y := decide (r < p.2)) (fun Q => by simp only [z14, z1q, z1r, z1d, z0p, z1a, z15, z1b, z0a, z09, z1f, z1e, z0o, z0u, z0v, z0s, z0r, z0q, z16, z0l, z17, z18, z1o, z1p, z0t, z0g, z0f, z0d, z0c, z0b, z0e, z0z, z0y, z0x, z0w, z10, z19, z1s, z0h, z0j, z0i, z0k, z1c, z1i, z1j, z1l, z1k, z1m, z1g, z0m, z0n, z07, z06, z05, z04, z08, z11, z1n, z12, z13, z1h, z1t, z3u, z3x, z1x, z1y, z3h, z3i, z3r, z3s, z3j, z3k, z3m, z3o, z3q, z3t, z3n, z2p, z2s, z37, z2k, z24, z25, z30, z2t, z31, z2e, z2d, z3g, z3f, z2m, z2n, z2u, z2j, z2x, z35, z2l, z3a, z38, z2i, z2q, z2y, z36, z40, z41, z3y, z45, z42, z43, z3b, z3c, z47, z1w, z3d, z46, yy0, yy1, yy2, yy3, yy4, yy5, z00, z02, z01, z03, z1v, z1u, z1z, z22, z20, z21, z2a, z28, z29, z27, z26, z2b, theGlobs, yy8, yy9, yy6, ne_eq, yy7, Nat.reduceAdd, Nat.reduceLT, if_true]) (fun Q => by simp only [z14, z1q, z1r, z1d, z0p, z1a, z15, z1b, z0a, z09, z1f, z1e, z0o, z0u, z0v, z0s, z0r, z0q, z16, z0l, z17, z18, z1o, z1p, z0t, z0g, z0f, z0d, z0c, z0b, z0e, z0z, z0y, z0x, z0w, z10, z19, z1s, z0h, z0j, z0i, z0k, z1c, z1i, z1j, z1l, z1k, z1m, z1g, z0m, z0n, z07, z06, z05, z04, z08, z11, z1n, z12, z13, z1h, z1t, z3u, z3x, z1x, z1y, z3h, z3i, z3r, z3s, z3j, z3k, z3m, z3o, z3q, z3t, z3n, z2p, z2s, z37, z2k, z24, z25, z30, z2t, z31, z2e, z2d, z3g, z3f, z2m, z2n, z2u, z2j, z2x, z35, z2l, z3a, z38, z2i, z2q, z2y, z36, z40, z41, z3y, z45, z42, z43, z3b, z3c, z47, z1w, z3d, z46, yy0, yy1, yy2, yy3, yy4, yy5, z00, z02, z01, z03, z1v, z1u, z1z, z22, z20, z21, z2a, z28, z29, z27, z26, z2b, theGlobs, yy8, yy9, yy6, ne_eq, yy7, Nat.reduceAdd, Nat.reduceLT, if_true]), z1r, z42, z1q]) (fun p _ _ H' _ => by simp only [z14, z1q, z1r, z1d, z0p, z1a, z15, z1b, z0a, z09, z1f, z1e, z0o, z0u, z0v, z0s, z0r, z0q, z16, z0l, z17, z18, z1o, z1p, z0t, z0g, z0f, z0d, z0c, z0b, z0e, z0z, z0y, z0x, z0w, z10, z19, z1s, z0h, z0j, z0i, z0k, z1c, z1i, z1j, z1l, z1k, z1m, z1g, z0m, z0n, z07, z06, z05, z04, z08, z11, z1n, z12, z13, z1h, z1t, z3u, z3x, z1x, z1y, z3h, z3i, z3r, z3s, z3j, z3k, z3m, z3o, z3q, z3t, z3n, z2p, z2s, z37, z2k, z24, z25, z30, z2t, z31, z2e, z2d, z3g, z3f, z2m, z2n, z2u, z2j, z2x, z35, z2l, z3a, z38, z2i, z2q, z2y, z36, z40, z41, z3y, z45, z42, z43, z3b, z3c, z47, z1w, z3d, z46, yy0, yy1, yy2, yy3, yy4, yy5, z00, z02, z01, z03, z1v, z1u, z1z, z22, z20, z21, z2a, z28, z29, z27, z26, z2b, theGlobs, yy8, yy9, yy6, ne_eq, yy7, Nat.reduceAdd, Nat.reduceLT, if_true]; exact List.prefix_refl _) fun E4 => ?_
  have hf4 := hf3.pre (List.prefix_append _ E4)
  rw [es]
  simp only [z14, z1q, z1r, z1d, z0p, z1a, z15, z1b, z0a, z09, z1f, z1e, z0o, z0u, z0v, z0s, z0r, z0q, z16, z0l, z17, z18, z1o, z1p, z0t, z0g, z0f, z0d, z0c, z0b, z0e, z0z, z0y, z0x, z0w, z10, z19, z1s, z0h, z0j, z0i, z0k, z1c, z1i, z1j, z1l, z1k, z1m, z1g, z0m, z0n, z07, z06, z05, z04, z08, z11, z1n, z12, z13, z1h, z1t, z3u, z3x, z1x, z1y, z3h, z3i, z3r, z3s, z3j, z3k, z3m, z3o, z3q, z3t, z3n, z2p, z2s, z37, z2k, z24, z25, z30, z2t, z31, z2e, z2d, z3g, z3f, z2m, z2n, z2u, z2j, z2x, z35, z2l, z3a, z38, z2i, z2q, z2y, z36, z40, z41, z3y, z45, z42, z43, z3b, z3c, z47, z1w, z3d, z46, yy0, yy1, yy2, yy3, yy4, yy5, z00, z02, z01, z03, z1v, z1u, z1z, z22, z20, z21, z2a, z28, z29, z27, z26, z2b, theGlobs, yy8, yy9, yy6, ne_eq, yy7, Nat.reduceAdd, Nat.reduceLT, if_true, cb_len (ls f r L hl), iv]
  refine comp_ok M (fun p => .tup [.int p.1, .int p.2]) (fun p => [some (.int p.1), some (.int p.2), some (.int f), some (.int r)]) (fun p => decide (p.1 = f) && decide (r < p.2)) (fun p => .int p.2) fv (fun Q => by simp only [z14, z1q, z1r, z1d, z0p, z1a, z15, z1b, z0a, z09, z1f, z1e, z0o, z0u, z0v, z0s, z0r, z0q, z16, z0l, z17, z18, z1o, z1p, z0t, z0g, z0f, z0d, z0c, z0b, z0e, z0z, z0y, z0x, z0w, z10, z19, z1s, z0h, z0j, z0i, z0k, z1c, z1i, z1j, z1l, z1k, z1m, z1g, z0m, z0n, z07, z06, z05, z04, z08, z11, z1n, z12, z13, z1h, z1t, z3u, z3x, z1x, z1y, z3h, z3i, z3r, z3s, z3j, z3k, z3m, z3o, z3q, z3t, z3n, z2p, z2s, z37, z2k, z24, z25, z30, z2t, z31, z2e, z2d, z3g, z3f, z2m, z2n, z2u, z2j, z2x, z35, z2l, z3a, z38, z2i, z2q, z2y, z36, z40, z41, z3y, z45, z42, z43, z3b, z3c, z47, z1w, z3d, z46, yy0, yy1, yy2, yy3, yy4, yy5, z00, z02, z01, z03, z1v, z1u, z1z, z22, z20, z21, z2a, z28, z29, z27, z26, z2b, theGlobs, yy8, yy9, yy6, ne_eq, yy7, Nat.reduceAdd, Nat.reduceLT, if_true]) hf4 (by lia) (fun p _ => rfl)
    (fun p _ H' _ Q => by
      rw [z41, z3y, z2g (x := decide (p.1 = f)) (y := decide (r < p.2)) (fun Q => by simp only [z14, z1q, z1r, z1d, z0p, z1a, z15, z1b, z0a, z09, z1f, z1e, z0o, z0u, z0v, z0s, z0r, z0q, z16, z0l, z17, z18, z1o, z1p, z0t, z0g, z0f, z0d, z0c, z0b, z0e, z0z, z0y, z0x, z0w, z10, z19, z1s, z0h, z0j, z0i, z0k, z1c, z1i, z1j, z1l, z1k, z1m, z1g, z0m, z0n, z07, z06, z05, z04, z08, z11, z1n, z12, z13, z1h, z1t, z3u, z3x, z1x, z1y, z3h, z3i, z3r, z3s, z3j, z3k, z3m, z3o, z3q, z3t, z3n, z2p, z2s, z37, z2k, z24, z25, z30, z2t, z31, z2e, z2d, z3g, z3f, z2m, z2n, z2u, z2j, z2x, z35, z2l, z3a, z38, z2i, z2q, z2y, z36, z40, z41, z3y, z45, z42, z43, z3b, z3c, z47, z1w, z3d, z46, yy0, yy1, yy2, yy3, yy4, yy5, z00, z02, z01, z03, z1v, z1u, z1z, z22, z20, z21, z2a, z28, z29, z27, z26, z2b, theGlobs, yy8, yy9, yy6, ne_eq, yy7, Nat.reduceAdd, Nat.reduceLT, if_true]) (fun Q => by simp only [z14, z1q, z1r, z1d, z0p, z1a, z15, z1b, z0a, z09, z1f, z1e, z0o, z0u, z0v, z0s, z0r, z0q, z16, z0l, z17, z18, z1o, z1p, z0t, z0g, z0f, z0d, z0c, z0b, z0e, z0z, z0y, z0x, z0w, z10, z19, z1s, z0h, z0j, z0i, z0k, z1c, z1i, z1j, z1l, z1k, z1m, z1g, z0m, z0n, z07, z06, z05, z04, z08, z11, z1n, z12, z13, z1h, z1t, z3u, z3x, z1x, z1y, z3h, z3i, z3r, z3s, z3j, z3k, z3m, z3o, z3q, z3t, z3n, z2p, z2s, z37, z2k, z24, z25, z30, z2t, z31, z2e, z2d, z3g, z3f, z2m, z2n, z2u, z2j, z2x, z35, z2l, z3a, z38, z2i, z2q, z2y, z36, z40, z41, z3y, z45, z42, z43, z3b, z3c, z47, z1w, z3d, z46, yy0, yy1, yy2, yy3, yy4, yy5, z00, z02, z01, z03, z1v, z1u, z1z, z22, z20, z21, z2a, z28, z29, z27, z26, z2b, theGlobs, yy8, yy9, yy6, ne_eq, yy7, Nat.reduceAdd, Nat.reduceLT, if_true]), z1r, z42, z1q]) (fun p _ _ H' _ => by simp only [z14, z1q, z1r, z1d, z0p, z1a, z15, z1b, z0a, z09, z1f, z1e, z0o, z0u, z0v, z0s, z0r, z0q, z16, z0l, z17, z18, z1o, z1p, z0t, z0g, z0f, z0d, z0c, z0b, z0e, z0z, z0y, z0x, z0w, z10, z19, z1s, z0h, z0j, z0i, z0k, z1c, z1i, z1j, z1l, z1k, z1m, z1g, z0m, z0n, z07, z06, z05, z04, z08, z11, z1n, z12, z13, z1h, z1t, z3u, z3x, z1x, z1y, z3h, z3i, z3r, z3s, z3j, z3k, z3m, z3o, z3q, z3t, z3n, z2p, z2s, z37, z2k, z24, z25, z30, z2t, z31, z2e, z2d, z3g, z3f, z2m, z2n, z2u, z2j, z2x, z35, z2l, z3a, z38, z2i, z2q, z2y, z36, z40, z41, z3y, z45, z42, z43, z3b, z3c, z47, z1w, z3d, z46, yy0, yy1, yy2, yy3, yy4, yy5, z00, z02, z01, z03, z1v, z1u, z1z, z22, z20, z21, z2a, z28, z29, z27, z26, z2b, theGlobs, yy8, yy9, yy6, ne_eq, yy7, Nat.reduceAdd, Nat.reduceLT, if_true]; exact List.prefix_refl _) fun E5 => ?_
  have hi := (hf4.pre (List.prefix_append _ E5) _ (List.prefix_refl _)).1
  rw [es]
  simp only [z14, z1q, z1r, z1d, z0p, z1a, z15, z1b, z0a, z09, z1f, z1e, z0o, z0u, z0v, z0s, z0r, z0q, z16, z0l, z17, z18, z1o, z1p, z0t, z0g, z0f, z0d, z0c, z0b, z0e, z0z, z0y, z0x, z0w, z10, z19, z1s, z0h, z0j, z0i, z0k, z1c, z1i, z1j, z1l, z1k, z1m, z1g, z0m, z0n, z07, z06, z05, z04, z08, z11, z1n, z12, z13, z1h, z1t, z3u, z3x, z1x, z1y, z3h, z3i, z3r, z3s, z3j, z3k, z3m, z3o, z3q, z3t, z3n, z2p, z2s, z37, z2k, z24, z25, z30, z2t, z31, z2e, z2d, z3g, z3f, z2m, z2n, z2u, z2j, z2x, z35, z2l, z3a, z38, z2i, z2q, z2y, z36, z40, z41, z3y, z45, z42, z43, z3b, z3c, z47, z1w, z3d, z46, yy0, yy1, yy2, yy3, yy4, yy5, z00, z02, z01, z03, z1v, z1u, z1z, z22, z20, z21, z2a, z28, z29, z27, z26, z2b, theGlobs, yy8, yy9, yy6, ne_eq, yy7, Nat.reduceAdd, Nat.reduceLT, if_true, cb_len (ls f r M hm), iv]
  rw [z34 (x := decide ((f, r + 1) ∈ M)) (y := decide ((f - 1, r + 2) ∈ M)) (z := decide ((f + 1, r + 2) ∈ M)) (fun Q => by simp only [z14, z1q, z1r, z1d, z0p, z1a, z15, z1b, z0a, z09, z1f, z1e, z0o, z0u, z0v, z0s, z0r, z0q, z16, z0l, z17, z18, z1o, z1p, z0t, z0g, z0f, z0d, z0c, z0b, z0e, z0z, z0y, z0x, z0w, z10, z19, z1s, z0h, z0j, z0i, z0k, z1c, z1i, z1j, z1l, z1k, z1m, z1g, z0m, z0n, z07, z06, z05, z04, z08, z11, z1n, z12, z13, z1h, z1t, z3u, z3x, z1x, z1y, z3h, z3i, z3r, z3s, z3j, z3k, z3m, z3o, z3q, z3t, z3n, z2p, z2s, z37, z2k, z24, z25, z30, z2t, z31, z2e, z2d, z3g, z3f, z2m, z2n, z2u, z2j, z2x, z35, z2l, z3a, z38, z2i, z2q, z2y, z36, z40, z41, z3y, z45, z42, z43, z3b, z3c, z47, z1w, z3d, z46, yy0, yy1, yy2, yy3, yy4, yy5, z00, z02, z01, z03, z1v, z1u, z1z, z22, z20, z21, z2a, z28, z29, z27, z26, z2b, theGlobs, yy8, yy9, yy6, ne_eq, yy7, Nat.reduceAdd, Nat.reduceLT, if_true, Nat.reduceLeDiff, wc_inP hi]) (fun Q => by simp only [z14, z1q, z1r, z1d, z0p, z1a, z15, z1b, z0a, z09, z1f, z1e, z0o, z0u, z0v, z0s, z0r, z0q, z16, z0l, z17, z18, z1o, z1p, z0t, z0g, z0f, z0d, z0c, z0b, z0e, z0z, z0y, z0x, z0w, z10, z19, z1s, z0h, z0j, z0i, z0k, z1c, z1i, z1j, z1l, z1k, z1m, z1g, z0m, z0n, z07, z06, z05, z04, z08, z11, z1n, z12, z13, z1h, z1t, z3u, z3x, z1x, z1y, z3h, z3i, z3r, z3s, z3j, z3k, z3m, z3o, z3q, z3t, z3n, z2p, z2s, z37, z2k, z24, z25, z30, z2t, z31, z2e, z2d, z3g, z3f, z2m, z2n, z2u, z2j, z2x, z35, z2l, z3a, z38, z2i, z2q, z2y, z36, z40, z41, z3y, z45, z42, z43, z3b, z3c, z47, z1w, z3d, z46, yy0, yy1, yy2, yy3, yy4, yy5, z00, z02, z01, z03, z1v, z1u, z1z, z22, z20, z21, z2a, z28, z29, z27, z26, z2b, theGlobs, yy8, yy9, yy6, ne_eq, yy7, Nat.reduceAdd, Nat.reduceLT, if_true, Nat.reduceLeDiff, wc_inP hi]) (fun Q => by simp only [z14, z1q, z1r, z1d, z0p, z1a, z15, z1b, z0a, z09, z1f, z1e, z0o, z0u, z0v, z0s, z0r, z0q, z16, z0l, z17, z18, z1o, z1p, z0t, z0g, z0f, z0d, z0c, z0b, z0e, z0z, z0y, z0x, z0w, z10, z19, z1s, z0h, z0j, z0i, z0k, z1c, z1i, z1j, z1l, z1k, z1m, z1g, z0m, z0n, z07, z06, z05, z04, z08, z11, z1n, z12, z13, z1h, z1t, z3u, z3x, z1x, z1y, z3h, z3i, z3r, z3s, z3j, z3k, z3m, z3o, z3q, z3t, z3n, z2p, z2s, z37, z2k, z24, z25, z30, z2t, z31, z2e, z2d, z3g, z3f, z2m, z2n, z2u, z2j, z2x, z35, z2l, z3a, z38, z2i, z2q, z2y, z36, z40, z41, z3y, z45, z42, z43, z3b, z3c, z47, z1w, z3d, z46, yy0, yy1, yy2, yy3, yy4, yy5, z00, z02, z01, z03, z1v, z1u, z1z, z22, z20, z21, z2a, z28, z29, z27, z26, z2b, theGlobs, yy8, yy9, yy6, ne_eq, yy7, Nat.reduceAdd, Nat.reduceLT, if_true, Nat.reduceLeDiff, wc_inP hi])]
  simp only [z14, z1q, z1r, z1d, z0p, z1a, z15, z1b, z0a, z09, z1f, z1e, z0o, z0u, z0v, z0s, z0r, z0q, z16, z0l, z17, z18, z1o, z1p, z0t, z0g, z0f, z0d, z0c, z0b, z0e, z0z, z0y, z0x, z0w, z10, z19, z1s, z0h, z0j, z0i, z0k, z1c, z1i, z1j, z1l, z1k, z1m, z1g, z0m, z0n, z07, z06, z05, z04, z08, z11, z1n, z12, z13, z1h, z1t, z3u, z3x, z1x, z1y, z3h, z3i, z3r, z3s, z3j, z3k, z3m, z3o, z3q, z3t, z3n, z2p, z2s, z37, z2k, z24, z25, z30, z2t, z31, z2e, z2d, z3g, z3f, z2m, z2n, z2u, z2j, z2x, z35, z2l, z3a, z38, z2i, z2q, z2y, z36, z40, z41, z3y, z45, z42, z43, z3b, z3c, z47, z1w, z3d, z46, yy0, yy1, yy2, yy3, yy4, yy5, z00, z02, z01, z03, z1v, z1u, z1z, z22, z20, z21, z2a, z28, z29, z27, z26, z2b, theGlobs, yy8, yy9, yy6, ne_eq, yy7, Nat.reduceAdd, Nat.reduceLT, if_true, Nat.reduceLeDiff]
  rw [z2h (x := !lwIso f L) (y := decide (((helpersL f r L).length : Int) = 0)) (z := lwStop f r M) (fun Q => by simp only [z14, z1q, z1r, z1d, z0p, z1a, z15, z1b, z0a, z09, z1f, z1e, z0o, z0u, z0v, z0s, z0r, z0q, z16, z0l, z17, z18, z1o, z1p, z0t, z0g, z0f, z0d, z0c, z0b, z0e, z0z, z0y, z0x, z0w, z10, z19, z1s, z0h, z0j, z0i, z0k, z1c, z1i, z1j, z1l, z1k, z1m, z1g, z0m, z0n, z07, z06, z05, z04, z08, z11, z1n, z12, z13, z1h, z1t, z3u, z3x, z1x, z1y, z3h, z3i, z3r, z3s, z3j, z3k, z3m, z3o, z3q, z3t, z3n, z2p, z2s, z37, z2k, z24, z25, z30, z2t, z31, z2e, z2d, z3g, z3f, z2m, z2n, z2u, z2j, z2x, z35, z2l, z3a, z38, z2i, z2q, z2y, z36, z40, z41, z3y, z45, z42, z43, z3b, z3c, z47, z1w, z3d, z46, yy0, yy1, yy2, yy3, yy4, yy5, z00, z02, z01, z03, z1v, z1u, z1z, z22, z20, z21, z2a, z28, z29, z27, z26, z2b, theGlobs, yy8, yy9, yy6, ne_eq, yy7, Nat.reduceAdd, Nat.reduceLT, if_true, lwIso]) (fun Q => by simp only [z14, z1q, z1r, z1d, z0p, z1a, z15, z1b, z0a, z09, z1f, z1e, z0o, z0u, z0v, z0s, z0r, z0q, z16, z0l, z17, z18, z1o, z1p, z0t, z0g, z0f, z0d, z0c, z0b, z0e, z0z, z0y, z0x, z0w, z10, z19, z1s, z0h, z0j, z0i, z0k, z1c, z1i, z1j, z1l, z1k, z1m, z1g, z0m, z0n, z07, z06, z05, z04, z08, z11, z1n, z12, z13, z1h, z1t, z3u, z3x, z1x, z1y, z3h, z3i, z3r, z3s, z3j, z3k, z3m, z3o, z3q, z3t, z3n, z2p, z2s, z37, z2k, z24, z25, z30, z2t, z31, z2e, z2d, z3g, z3f, z2m, z2n, z2u, z2j, z2x, z35, z2l, z3a, z38, z2i, z2q, z2y, z36, z40, z41, z3y, z45, z42, z43, z3b, z3c, z47, z1w, z3d, z46, yy0, yy1, yy2, yy3, yy4, yy5, z00, z02, z01, z03, z1v, z1u, z1z, z22, z20, z21, z2a, z28, z29, z27, z26, z2b, theGlobs, yy8, yy9, yy6, ne_eq, yy7, Nat.reduceAdd, Nat.reduceLT, if_true, cb_len lh, iv]) (fun Q => by simp only [z14, z1q, z1r, z1d, z0p, z1a, z15, z1b, z0a, z09, z1f, z1e, z0o, z0u, z0v, z0s, z0r, z0q, z16, z0l, z17, z18, z1o, z1p, z0t, z0g, z0f, z0d, z0c, z0b, z0e, z0z, z0y, z0x, z0w, z10, z19, z1s, z0h, z0j, z0i, z0k, z1c, z1i, z1j, z1l, z1k, z1m, z1g, z0m, z0n, z07, z06, z05, z04, z08, z11, z1n, z12, z13, z1h, z1t, z3u, z3x, z1x, z1y, z3h, z3i, z3r, z3s, z3j, z3k, z3m, z3o, z3q, z3t, z3n, z2p, z2s, z37, z2k, z24, z25, z30, z2t, z31, z2e, z2d, z3g, z3f, z2m, z2n, z2u, z2j, z2x, z35, z2l, z3a, z38, z2i, z2q, z2y, z36, z40, z41, z3y, z45, z42, z43, z3b, z3c, z47, z1w, z3d, z46, yy0, yy1, yy2, yy3, yy4, yy5, z00, z02, z01, z03, z1v, z1u, z1z, z22, z20, z21, z2a, z28, z29, z27, z26, z2b, theGlobs, yy8, yy9, yy6, ne_eq, yy7, Nat.reduceAdd, Nat.reduceLT, if_true, lwStop])]
  simp only [z14, z1q, z1r, z1d, z0p, z1a, z15, z1b, z0a, z09, z1f, z1e, z0o, z0u, z0v, z0s, z0r, z0q, z16, z0l, z17, z18, z1o, z1p, z0t, z0g, z0f, z0d, z0c, z0b, z0e, z0z, z0y, z0x, z0w, z10, z19, z1s, z0h, z0j, z0i, z0k, z1c, z1i, z1j, z1l, z1k, z1m, z1g, z0m, z0n, z07, z06, z05, z04, z08, z11, z1n, z12, z13, z1h, z1t, z3u, z3x, z1x, z1y, z3h, z3i, z3r, z3s, z3j, z3k, z3m, z3o, z3q, z3t, z3n, z2p, z2s, z37, z2k, z24, z25, z30, z2t, z31, z2e, z2d, z3g, z3f, z2m, z2n, z2u, z2j, z2x, z35, z2l, z3a, z38, z2i, z2q, z2y, z36, z40, z41, z3y, z45, z42, z43, z3b, z3c, z47, z1w, z3d, z46, yy0, yy1, yy2, yy3, yy4, yy5, z00, z02, z01, z03, z1v, z1u, z1z, z22, z20, z21, z2a, z28, z29, z27, z26, z2b, theGlobs, yy8, yy9, yy6, ne_eq, yy7, Nat.reduceAdd, Nat.reduceLT, if_true, Nat.reduceLeDiff]
  rw [z33 (x := decide (r ∈ besideL f L)) (y := decide (r - 1 ∈ besideL f L)) (fun Q => by simp only [z14, z1q, z1r, z1d, z0p, z1a, z15, z1b, z0a, z09, z1f, z1e, z0o, z0u, z0v, z0s, z0r, z0q, z16, z0l, z17, z18, z1o, z1p, z0t, z0g, z0f, z0d, z0c, z0b, z0e, z0z, z0y, z0x, z0w, z10, z19, z1s, z0h, z0j, z0i, z0k, z1c, z1i, z1j, z1l, z1k, z1m, z1g, z0m, z0n, z07, z06, z05, z04, z08, z11, z1n, z12, z13, z1h, z1t, z3u, z3x, z1x, z1y, z3h, z3i, z3r, z3s, z3j, z3k, z3m, z3o, z3q, z3t, z3n, z2p, z2s, z37, z2k, z24, z25, z30, z2t, z31, z2e, z2d, z3g, z3f, z2m, z2n, z2u, z2j, z2x, z35, z2l, z3a, z38, z2i, z2q, z2y, z36, z40, z41, z3y, z45, z42, z43, z3b, z3c, z47, z1w, z3d, z46, yy0, yy1, yy2, yy3, yy4, yy5, z00, z02, z01, z03, z1v, z1u, z1z, z22, z20, z21, z2a, z28, z29, z27, z26, z2b, theGlobs, yy8, yy9, yy6, ne_eq, yy7, Nat.reduceAdd, Nat.reduceLT, if_true, wc_inI]) (fun Q => by simp only [z14, z1q, z1r, z1d, z0p, z1a, z15, z1b, z0a, z09, z1f, z1e, z0o, z0u, z0v, z0s, z0r, z0q, z16, z0l, z17, z18, z1o, z1p, z0t, z0g, z0f, z0d, z0c, z0b, z0e, z0z, z0y, z0x, z0w, z10, z19, z1s, z0h, z0j, z0i, z0k, z1c, z1i, z1j, z1l, z1k, z1m, z1g, z0m, z0n, z07, z06, z05, z04, z08, z11, z1n, z12, z13, z1h, z1t, z3u, z3x, z1x, z1y, z3h, z3i, z3r, z3s, z3j, z3k, z3m, z3o, z3q, z3t, z3n, z2p, z2s, z37, z2k, z24, z25, z30, z2t, z31, z2e, z2d, z3g, z3f, z2m, z2n, z2u, z2j, z2x, z35, z2l, z3a, z38, z2i, z2q, z2y, z36, z40, z41, z3y, z45, z42, z43, z3b, z3c, z47, z1w, z3d, z46, yy0, yy1, yy2, yy3, yy4, yy5, z00, z02, z01, z03, z1v, z1u, z1z, z22, z20, z21, z2a, z28, z29, z27, z26, z2b, theGlobs, yy8, yy9, yy6, ne_eq, yy7, Nat.reduceAdd, Nat.reduceLT, if_true, wc_inI])]
  simp only [z14, z1q, z1r, z1d, z0p, z1a, z15, z1b, z0a, z09, z1f, z1e, z0o, z0u, z0v, z0s, z0r, z0q, z16, z0l, z17, z18, z1o, z1p, z0t, z0g, z0f, z0d, z0c, z0b, z0e, z0z, z0y, z0x, z0w, z10, z19, z1s, z0h, z0j, z0i, z0k, z1c, z1i, z1j, z1l, z1k, z1m, z1g, z0m, z0n, z07, z06, z05, z04, z08, z11, z1n, z12, z13, z1h, z1t, z3u, z3x, z1x, z1y, z3h, z3i, z3r, z3s, z3j, z3k, z3m, z3o, z3q, z3t, z3n, z2p, z2s, z37, z2k, z24, z25, z30, z2t, z31, z2e, z2d, z3g, z3f, z2m, z2n, z2u, z2j, z2x, z35, z2l, z3a, z38, z2i, z2q, z2y, z36, z40, z41, z3y, z45, z42, z43, z3b, z3c, z47, z1w, z3d, z46, yy0, yy1, yy2, yy3, yy4, yy5, z00, z02, z01, z03, z1v, z1u, z1z, z22, z20, z21, z2a, z28, z29, z27, z26, z2b, theGlobs, yy8, yy9, yy6, ne_eq, yy7, Nat.reduceAdd, Nat.reduceLT, if_true, Nat.reduceLeDiff]
  rw [z2g (x := !lwSame f r L) (y := !lwSame f r M) (fun Q => by simp only [z14, z1q, z1r, z1d, z0p, z1a, z15, z1b, z0a, z09, z1f, z1e, z0o, z0u, z0v, z0s, z0r, z0q, z16, z0l, z17, z18, z1o, z1p, z0t, z0g, z0f, z0d, z0c, z0b, z0e, z0z, z0y, z0x, z0w, z10, z19, z1s, z0h, z0j, z0i, z0k, z1c, z1i, z1j, z1l, z1k, z1m, z1g, z0m, z0n, z07, z06, z05, z04, z08, z11, z1n, z12, z13, z1h, z1t, z3u, z3x, z1x, z1y, z3h, z3i, z3r, z3s, z3j, z3k, z3m, z3o, z3q, z3t, z3n, z2p, z2s, z37, z2k, z24, z25, z30, z2t, z31, z2e, z2d, z3g, z3f, z2m, z2n, z2u, z2j, z2x, z35, z2l, z3a, z38, z2i, z2q, z2y, z36, z40, z41, z3y, z45, z42, z43, z3b, z3c, z47, z1w, z3d, z46, yy0, yy1, yy2, yy3, yy4, yy5, z00, z02, z01, z03, z1v, z1u, z1z, z22, z20, z21, z2a, z28, z29, z27, z26, z2b, theGlobs, yy8, yy9, yy6, ne_eq, yy7, Nat.reduceAdd, Nat.reduceLT, if_true, lwSame]) (fun Q => by simp only [z14, z1q, z1r, z1d, z0p, z1a, z15, z1b, z0a, z09, z1f, z1e, z0o, z0u, z0v, z0s, z0r, z0q, z16, z0l, z17, z18, z1o, z1p, z0t, z0g, z0f, z0d, z0c, z0b, z0e, z0z, z0y, z0x, z0w, z10, z19, z1s, z0h, z0j, z0i, z0k, z1c, z1i, z1j, z1l, z1k, z1m, z1g, z0m, z0n, z07, z06, z05, z04, z08, z11, z1n, z12, z13, z1h, z1t, z3u, z3x, z1x, z1y, z3h, z3i, z3r, z3s, z3j, z3k, z3m, z3o, z3q, z3t, z3n, z2p, z2s, z37, z2k, z24, z25, z30, z2t, z31, z2e, z2d, z3g, z3f, z2m, z2n, z2u, z2j, z2x, z35, z2l, z3a, z38, z2i, z2q, z2y, z36, z40, z41, z3y, z45, z42, z43, z3b, z3c, z47, z1w, z3d, z46, yy0, yy1, yy2, yy3, yy4, yy5, z00, z02, z01, z03, z1v, z1u, z1z, z22, z20, z21, z2a, z28, z29, z27, z26, z2b, theGlobs, yy8, yy9, yy6, ne_eq, yy7, Nat.reduceAdd, Nat.reduceLT, if_true, lwSame])]
  simp only [z14, z1q, z1r, z1d, z0p, z1a, z15, z1b, z0a, z09, z1f, z1e, z0o, z0u, z0v, z0s, z0r, z0q, z16, z0l, z17, z18, z1o, z1p, z0t, z0g, z0f, z0d, z0c, z0b, z0e, z0z, z0y, z0x, z0w, z10, z19, z1s, z0h, z0j, z0i, z0k, z1c, z1i, z1j, z1l, z1k, z1m, z1g, z0m, z0n, z07, z06, z05, z04, z08, z11, z1n, z12, z13, z1h, z1t, z3u, z3x, z1x, z1y, z3h, z3i, z3r, z3s, z3j, z3k, z3m, z3o, z3q, z3t, z3n, z2p, z2s, z37, z2k, z24, z25, z30, z2t, z31, z2e, z2d, z3g, z3f, z2m, z2n, z2u, z2j, z2x, z35, z2l, z3a, z38, z2i, z2q, z2y, z36, z40, z41, z3y, z45, z42, z43, z3b, z3c, z47, z1w, z3d, z46, yy0, yy1, yy2, yy3, yy4, yy5, z00, z02, z01, z03, z1v, z1u, z1z, z22, z20, z21, z2a, z28, z29, z27, z26, z2b, theGlobs, yy8, yy9, yy6, ne_eq, yy7, Nat.reduceAdd, Nat.reduceLT, if_true, Nat.reduceLeDiff]
  rw [z2g (x := lwLone f r L M) (y := decide (((guardsL f r M).length : Int) = 0)) (fun Q => by simp only [z14, z1q, z1r, z1d, z0p, z1a, z15, z1b, z0a, z09, z1f, z1e, z0o, z0u, z0v, z0s, z0r, z0q, z16, z0l, z17, z18, z1o, z1p, z0t, z0g, z0f, z0d, z0c, z0b, z0e, z0z, z0y, z0x, z0w, z10, z19, z1s, z0h, z0j, z0i, z0k, z1c, z1i, z1j, z1l, z1k, z1m, z1g, z0m, z0n, z07, z06, z05, z04, z08, z11, z1n, z12, z13, z1h, z1t, z3u, z3x, z1x, z1y, z3h, z3i, z3r, z3s, z3j, z3k, z3m, z3o, z3q, z3t, z3n, z2p, z2s, z37, z2k, z24, z25, z30, z2t, z31, z2e, z2d, z3g, z3f, z2m, z2n, z2u, z2j, z2x, z35, z2l, z3a, z38, z2i, z2q, z2y, z36, z40, z41, z3y, z45, z42, z43, z3b, z3c, z47, z1w, z3d, z46, yy0, yy1, yy2, yy3, yy4, yy5, z00, z02, z01, z03, z1v, z1u, z1z, z22, z20, z21, z2a, z28, z29, z27, z26, z2b, theGlobs, yy8, yy9, yy6, ne_eq, yy7, Nat.reduceAdd, Nat.reduceLT, if_true, lwLone]) (fun Q => by simp only [z14, z1q, z1r, z1d, z0p, z1a, z15, z1b, z0a, z09, z1f, z1e, z0o, z0u, z0v, z0s, z0r, z0q, z16, z0l, z17, z18, z1o, z1p, z0t, z0g, z0f, z0d, z0c, z0b, z0e, z0z, z0y, z0x, z0w, z10, z19, z1s, z0h, z0j, z0i, z0k, z1c, z1i, z1j, z1l, z1k, z1m, z1g, z0m, z0n, z07, z06, z05, z04, z08, z11, z1n, z12, z13, z1h, z1t, z3u, z3x, z1x, z1y, z3h, z3i, z3r, z3s, z3j, z3k, z3m, z3o, z3q, z3t, z3n, z2p, z2s, z37, z2k, z24, z25, z30, z2t, z31, z2e, z2d, z3g, z3f, z2m, z2n, z2u, z2j, z2x, z35, z2l, z3a, z38, z2i, z2q, z2y, z36, z40, z41, z3y, z45, z42, z43, z3b, z3c, z47, z1w, z3d, z46, yy0, yy1, yy2, yy3, yy4, yy5, z00, z02, z01, z03, z1v, z1u, z1z, z22, z20, z21, z2a, z28, z29, z27, z26, z2b, theGlobs, yy8, yy9, yy6, ne_eq, yy7, Nat.reduceAdd, Nat.reduceLT, if_true, cb_len lg, iv])]
  simp only [z14, z1q, z1r, z1d, z0p, z1a, z15, z1b, z0a, z09, z1f, z1e, z0o, z0u, z0v, z0s, z0r, z0q, z16, z0l, z17, z18, z1o, z1p, z0t, z0g, z0f, z0d, z0c, z0b, z0e, z0z, z0y, z0x, z0w, z10, z19, z1s, z0h, z0j, z0i, z0k, z1c, z1i, z1j, z1l, z1k, z1m, z1g, z0m, z0n, z07, z06, z05, z04, z08, z11, z1n, z12, z13, z1h, z1t, z3u, z3x, z1x, z1y, z3h, z3i, z3r, z3s, z3j, z3k, z3m, z3o, z3q, z3t, z3n, z2p, z2s, z37, z2k, z24, z25, z30, z2t, z31, z2e, z2d, z3g, z3f, z2m, z2n, z2u, z2j, z2x, z35, z2l, z3a, z38, z2i, z2q, z2y, z36, z40, z41, z3y, z45, z42, z43, z3b, z3c, z47, z1w, z3d, z46, yy0, yy1, yy2, yy3, yy4, yy5, z00, z02, z01, z03, z1v, z1u, z1z, z22, z20, z21, z2a, z28, z29, z27, z26, z2b, theGlobs, yy8, yy9, yy6, ne_eq, yy7, Nat.reduceAdd, Nat.reduceLT, if_true, Nat.reduceLeDiff]
  rw [z2h (x := lwLone f r L M) (y := decide (0 < ((guardsL f r M).length : Int))) (z := decide (((guardsL f r M).length : Int) ≤ (helpersL f r L).length)) (fun Q => by simp only [z14, z1q, z1r, z1d, z0p, z1a, z15, z1b, z0a, z09, z1f, z1e, z0o, z0u, z0v, z0s, z0r, z0q, z16, z0l, z17, z18, z1o, z1p, z0t, z0g, z0f, z0d, z0c, z0b, z0e, z0z, z0y, z0x, z0w, z10, z19, z1s, z0h, z0j, z0i, z0k, z1c, z1i, z1j, z1l, z1k, z1m, z1g, z0m, z0n, z07, z06, z05, z04, z08, z11, z1n, z12, z13, z1h, z1t, z3u, z3x, z1x, z1y, z3h, z3i, z3r, z3s, z3j, z3k, z3m, z3o, z3q, z3t, z3n, z2p, z2s, z37, z2k, z24, z25, z30, z2t, z31, z2e, z2d, z3g, z3f, z2m, z2n, z2u, z2j, z2x, z35, z2l, z3a, z38, z2i, z2q, z2y, z36, z40, z41, z3y, z45, z42, z43, z3b, z3c, z47, z1w, z3d, z46, yy0, yy1, yy2, yy3, yy4, yy5, z00, z02, z01, z03, z1v, z1u, z1z, z22, z20, z21, z2a, z28, z29, z27, z26, z2b, theGlobs, yy8, yy9, yy6, ne_eq, yy7, Nat.reduceAdd, Nat.reduceLT, if_true, lwLone]) (fun Q => by simp only [z14, z1q, z1r, z1d, z0p, z1a, z15, z1b, z0a, z09, z1f, z1e, z0o, z0u, z0v, z0s, z0r, z0q, z16, z0l, z17, z18, z1o, z1p, z0t, z0g, z0f, z0d, z0c, z0b, z0e, z0z, z0y, z0x, z0w, z10, z19, z1s, z0h, z0j, z0i, z0k, z1c, z1i, z1j, z1l, z1k, z1m, z1g, z0m, z0n, z07, z06, z05, z04, z08, z11, z1n, z12, z13, z1h, z1t, z3u, z3x, z1x, z1y, z3h, z3i, z3r, z3s, z3j, z3k, z3m, z3o, z3q, z3t, z3n, z2p, z2s, z37, z2k, z24, z25, z30, z2t, z31, z2e, z2d, z3g, z3f, z2m, z2n, z2u, z2j, z2x, z35, z2l, z3a, z38, z2i, z2q, z2y, z36, z40, z41, z3y, z45, z42, z43, z3b, z3c, z47, z1w, z3d, z46, yy0, yy1, yy2, yy3, yy4, yy5, z00, z02, z01, z03, z1v, z1u, z1z, z22, z20, z21, z2a, z28, z29, z27, z26, z2b, theGlobs, yy8, yy9, yy6, ne_eq, yy7, Nat.reduceAdd, Nat.reduceLT, if_true, cb_len lg, iv]) (fun Q => by simp only [z14, z1q, z1r, z1d, z0p, z1a, z15, z1b, z0a, z09, z1f, z1e, z0o, z0u, z0v, z0s, z0r, z0q, z16, z0l, z17, z18, z1o, z1p, z0t, z0g, z0f, z0d, z0c, z0b, z0e, z0z, z0y, z0x, z0w, z10, z19, z1s, z0h, z0j, z0i, z0k, z1c, z1i, z1j, z1l, z1k, z1m, z1g, z0m, z0n, z07, z06, z05, z04, z08, z11, z1n, z12, z13, z1h, z1t, z3u, z3x, z1x, z1y, z3h, z3i, z3r, z3s, z3j, z3k, z3m, z3o, z3q, z3t, z3n, z2p, z2s, z37, z2k, z24, z25, z30, z2t, z31, z2e, z2d, z3g, z3f, z2m, z2n, z2u, z2j, z2x, z35, z2l, z3a, z38, z2i, z2q, z2y, z36, z40, z41, z3y, z45, z42, z43, z3b, z3c, z47, z1w, z3d, z46, yy0, yy1, yy2, yy3, yy4, yy5, z00, z02, z01, z03, z1v, z1u, z1z, z22, z20, z21, z2a, z28, z29, z27, z26, z2b, theGlobs, yy8, yy9, yy6, ne_eq, yy7, Nat.reduceAdd, Nat.reduceLT, if_true, cb_len lg, cb_len lh, iv])]
  simp only [z14, z1q, z1r, z1d, z0p, z1a, z15, z1b, z0a, z09, z1f, z1e, z0o, z0u, z0v, z0s, z0r, z0q, z16, z0l, z17, z18, z1o, z1p, z0t, z0g, z0f, z0d, z0c, z0b, z0e, z0z, z0y, z0x, z0w, z10, z19, z1s, z0h, z0j, z0i, z0k, z1c, z1i, z1j, z1l, z1k, z1m, z1g, z0m, z0n, z07, z06, z05, z04, z08, z11, z1n, z12, z13, z1h, z1t, z3u, z3x, z1x, z1y, z3h, z3i, z3r, z3s, z3j, z3k, z3m, z3o, z3q, z3t, z3n, z2p, z2s, z37, z2k, z24, z25, z30, z2t, z31, z2e, z2d, z3g, z3f, z2m, z2n, z2u, z2j, z2x, z35, z2l, z3a, z38, z2i, z2q, z2y, z36, z40, z41, z3y, z45, z42, z43, z3b, z3c, z47, z1w, z3d, z46, yy0, yy1, yy2, yy3, yy4, yy5, z00, z02, z01, z03, z1v, z1u, z1z, z22, z20, z21, z2a, z28, z29, z27, z26, z2b, theGlobs, yy8, yy9, yy6, ne_eq, yy7, Nat.reduceAdd, Nat.reduceLT, if_true, Nat.reduceLeDiff]
  rw [callK_fresh (by simp only [List.length_append]; lia)]
  exact ⟨rfl, by simp only [List.append_assoc]; exact List.prefix_append _ _⟩

theorem wp_iftup {k : Nat} {e1 e2 : Ex} {ρ : Vars} {b : Bool} {a1 a2 c1 c2 : Int} {Q : Flw → Vars → AH → Prop} (hk : ρ[k]? = some (some (.bool b))) (h1 : ρ[12]? = some (some (.int a1))) (h2 : ρ[13]? = some (some (.int a2)))
    (he : ∀ Q : List PV → AH → Prop, wpEs n ρ (.cons e1 (.cons e2 .nil)) H Q = Q [.int c1, .int c2] H) (h : Q .next ((ρ.set 12 (some (.int (if b = true then c1 else a1)))).set 13 (some (.int (if b = true then c2 else a2)))) H) :
    wpS n (.ite (.var k) (.cons (.assignTup [12, 13] (.tuple (.cons e1 (.cons e2 .nil)))) .nil) .nil) ρ H Q := by
  obtain ⟨g1, g2⟩ := List.getElem?_eq_some_iff.mp h1
  obtain ⟨g3, g4⟩ := List.getElem?_eq_some_iff.mp h2
  rw [z3o, z3y, z37, hk, z46, z14, z1r, z42, z1q, z1n]
  cases b
  · rw [if_neg (by decide), z3x]
    rw [if_neg (by decide), if_neg (by decide), ← g2, List.set_getElem_self, ← g4, List.set_getElem_self] at h
    exact h
  · rw [if_pos rfl, z3u, z3i, z36, he]
    rw [if_pos rfl, if_pos rfl] at h
    refine ⟨by simp, ?_⟩
    have g5 : 13 < (ρ.set 12 (some (.int c1))).length := by rw [List.length_set]; exact g3
    have e : setAll [12, 13] [.int c1, .int c2] ρ = some ((ρ.set 12 (some (.int c1))).set 13 (some (.int c2))) := by
      rw [setAll_cons, setAll_cons, decide_eq_true g1, decide_eq_true g5]; rfl
    rw [z0k, show unpk H (.tup [.int c1, .int c2]) = some [.int c1, .int c2] from rfl, z47, z0i, e, z47, z0j, z1x, z3x]
    exact ⟨by simp, h⟩
end

noncomputable def lsMg (f r : Int) (L : List (Int × Int)) (free : Int) : Int := (3 * r + 2) * (1 + free + minI 1 (((besideL f L).count r : Nat) : Int)) + 9 * (((besideL f L).count (r - 1) : Nat) : Int)
noncomputable def lsEg (mg r : Int) : Int := if 1 < r then (mg * (r - 2)).fdiv 4 else -(mg.fdiv 4)
noncomputable def lawScore (f r : Int) (L : List (Int × Int)) (iso dbl back conn opp pass can : Bool) : Int :=
  let free : Int := if opp = true then 0 else 1
  let m0 := if conn = true then lsMg f r L free else 0
  let e0 := if conn = true then lsEg (lsMg f r L free) r else 0
  let m1 := if iso = true then m0 - 5 - 12 * free else m0
  let e1 := if iso = true then e0 - 15 - 11 * free else e0
  let m2 := if back = true then m1 - 9 - 12 * free else m1
  let e2 := if back = true then e1 - 24 - 11 * free else e1
  let m3 := if dbl = true then m2 - 11 else m2
  let e3 := if dbl = true then e2 - 50 else e2
  let m4 := if pass = true then m3 + 4 * r * r else m3
  let e4 := if pass = true then e3 + (6 * r + 5) * r else e3
  let m5 := if can = true then m4 + 2 * r else m4
  let e5 := if can = true then e4 + 5 * r else e4
  m5 + 65536 * e5
section
variable {n : Nat} {H : AH}
theorem items_lst {vs : List PV} : items H (.lst vs) = some vs := rfl
theorem ev_law_score {f r : Int} {ov : PV} {L : List (Int × Int)} {iso dbl back conn opp pass can : Bool} (ho : Src H ov (pvs L)) (hl : L.length ≤ 64) (hr : 0 ≤ r ∧ r ≤ 7) :
    ∃ E, run (n+1) 31 [.int f, .int r, ov, .lst (bvs [iso, dbl, back, conn, opp, pass, can])] H = some (.int (lawScore f r L iso dbl back conn opp pass can), H ++ E) := by
  refine ext_of (wp_run (d := d_law_score) rfl rfl ?_)
  show wpSs n d_law_score.body [some (.int f), some (.int r), some ov, some (.lst (bvs [iso, dbl, back, conn, opp, pass, can])), none, none, none, none, none, none, none, none, none, none, none] H _
  unfold d_law_score
  have m1 : ∀ y : Int, (small 12 || small y) = true := fun y => rfl
  have m2 : ∀ y : Int, (small 11 || small y) = true := fun y => rfl
  have m3 : ∀ y : Int, (small 4 || small y) = true := fun y => rfl
  have m4 : ∀ y : Int, (small 6 || small y) = true := fun y => rfl
  have m5 : ∀ y : Int, (small 5 || small y) = true := fun y => rfl
  have m6 : ∀ y : Int, (small 2 || small y) = true := fun y => rfl
  have m7 : ∀ y : Int, (small (4 * r) || small y) = true := fun y => by rw [small_of (by lia) (by lia)]; rfl
  have m8 : ∀ y : Int, (small (6 * r + 5) || small y) = true := fun y => by rw [small_of (by lia) (by lia)]; rfl
  have m9 : ∀ y : Int, (small 65536 || small y) = true := fun y => rfl
  have m10 : ∀ y : Int, (small 3 || small y) = true := fun y => rfl
  have m11 : ∀ y : Int, (small 9 || small y) = true := fun y => rfl
  have m12 : ∀ y : Int, (small (3 * r + 2) || small y) = true := fun y => by rw [small_of (by lia) (by lia)]; rfl
  have m13 : ∀ y : Int, (small y || small (r - 2)) = true := fun y => by rw [small_of (a := r - 2) (by lia) (by lia)]; simp
  rw [z3u]
  have es : setAll [4, 5, 6, 7, 8, 9, 10] (bvs [iso, dbl, back, conn, opp, pass, can]) [some (.int f), some (.int r), some ov, some (.lst (bvs [iso, dbl, back, conn, opp, pass, can])), none, none, none, none, none, none, none, none, none, none, none] =
    some [some (.int f), some (.int r), some ov, some (.lst (bvs [iso, dbl, back, conn, opp, pass, can])), some (.bool iso), some (.bool dbl), some (.bool back), some (.bool conn), some (.bool opp), some (.bool pass), some (.bool can), none, none, none, none] := rfl
  simp only [z14, z1q, z1r, z1d, z0p, z1a, z15, z1b, z0a, z09, z1f, z1e, z0o, z0u, z0v, z0s, z0r, z0q, z16, z0l, z17, z18, z1o, z1p, z0t, z0g, z0f, z0d, z0c, z0b, z0e, z0z, z0y, z0x, z0w, z10, z19, z1s, z0h, z0j, z0i, z0k, z1c, z1i, z1j, z1l, z1k, z1m, z1g, z0m, z0n, z07, z06, z05, z04, z08, z11, z1n, z12, z13, z1h, z1t, z3i, z37, yy5, yy4, z46, unpk, items_lst, z47, es, z1x]
  refine ⟨by simp [bvs], ?_⟩
  generalize (PV.lst (bvs [iso, dbl, back, conn, opp, pass, can])) = fv
  rw [z3u]
  simp only [z14, z1q, z1r, z1d, z0p, z1a, z15, z1b, z0a, z09, z1f, z1e, z0o, z0u, z0v, z0s, z0r, z0q, z16, z0l, z17, z18, z1o, z1p, z0t, z0g, z0f, z0d, z0c, z0b, z0e, z0z, z0y, z0x, z0w, z10, z19, z1s, z0h, z0j, z0i, z0k, z1c, z1i, z1j, z1l, z1k, z1m, z1g, z0m, z0n, z07, z06, z05, z04, z08, z11, z1n, z12, z13, z1h, z1t, z3h, z2v, z3y, z37, z42, yy5, yy4, z46, yy0, yy1, yy7, Nat.reduceAdd, Nat.reduceLT, yy8, yy3, yy2, z1x]
  generalize hfree : (if opp = true then (0 : Int) else 1) = free
  have hf : free = 0 ∨ free = 1 := by rw [← hfree]; split <;> simp
  rw [z3u]
  simp only [z14, z1q, z1r, z1d, z0p, z1a, z15, z1b, z0a, z09, z1f, z1e, z0o, z0u, z0v, z0s, z0r, z0q, z16, z0l, z17, z18, z1o, z1p, z0t, z0g, z0f, z0d, z0c, z0b, z0e, z0z, z0y, z0x, z0w, z10, z19, z1s, z0h, z0j, z0i, z0k, z1c, z1i, z1j, z1l, z1k, z1m, z1g, z0m, z0n, z07, z06, z05, z04, z08, z11, z1n, z12, z13, z1h, z1t, z3h, z2p, yy5, yy4, z46, yy0, yy1, yy7, Nat.reduceAdd, Nat.reduceLT, yy8, yy3, yy2, z1x]
  rw [z3u]
  simp only [z14, z1q, z1r, z1d, z0p, z1a, z15, z1b, z0a, z09, z1f, z1e, z0o, z0u, z0v, z0s, z0r, z0q, z16, z0l, z17, z18, z1o, z1p, z0t, z0g, z0f, z0d, z0c, z0b, z0e, z0z, z0y, z0x, z0w, z10, z19, z1s, z0h, z0j, z0i, z0k, z1c, z1i, z1j, z1l, z1k, z1m, z1g, z0m, z0n, z07, z06, z05, z04, z08, z11, z1n, z12, z13, z1h, z1t, z3h, z2p, yy5, yy4, z46, yy0, yy1, yy7, Nat.reduceAdd, Nat.reduceLT, yy8, yy3, yy2, z1x]
  rw [z3u]
  have cut : ∀ K : Flw → Vars → AH → Prop, (∀ E o14, K .next [some (.int f), some (.int r), some ov, some fv, some (.bool iso), some (.bool dbl), some (.bool back), some (.bool conn), some (.bool opp), some (.bool pass), some (.bool can), some (.int free),
      some (.int (if conn = true then lsMg f r L free else 0)), some (.int (if conn = true then lsEg (lsMg f r L free) r else 0)), o14] (H ++ E)) →
      wpS n (.ite (.var 7) (.cons (.assign 14 (.comp 2 [0] (.var 1) (.var 2) (.cons (.cmp .eq (.call .abs (.cons (.bin .sub (.var 0) (.var 2)) .nil)) (.const (.int 1))) .nil)))
 (.cons (.assign 12 (.bin .add (.bin .mul (.bin .add (.bin .mul (.const (.int 3)) (.var 1)) (.const (.int 2))) (.bin .add (.bin .add (.const (.int 1)) (.var 11)) (.call .min2 (.cons (.const (.int 1)) (.cons (.count (.var 14) (.var 1)) .nil))))) (.bin .mul (.const (.int 9)) (.count (.var 14) (.bin .sub (.var 1) (.const (.int 1)))))))
 (.cons (.assign 13 (.ite (.cmp .gt (.var 1) (.const (.int 1))) (.bin .fdiv (.bin .mul (.var 12) (.bin .sub (.var 1) (.const (.int 2)))) (.const (.int 4))) (.neg (.bin .fdiv (.var 12) (.const (.int 4))))))
 .nil))) .nil)
        [some (.int f), some (.int r), some ov, some fv, some (.bool iso), some (.bool dbl), some (.bool back), some (.bool conn), some (.bool opp), some (.bool pass), some (.bool can), some (.int free), some (.int 0), some (.int 0), none] H K := by
    intro K hK
    rw [z3o, z3y]
    simp only [z14, z1q, z1r, z1d, z0p, z1a, z15, z1b, z0a, z09, z1f, z1e, z0o, z0u, z0v, z0s, z0r, z0q, z16, z0l, z17, z18, z1o, z1p, z0t, z0g, z0f, z0d, z0c, z0b, z0e, z0z, z0y, z0x, z0w, z10, z19, z1s, z0h, z0j, z0i, z0k, z1c, z1i, z1j, z1l, z1k, z1m, z1g, z0m, z0n, z07, z06, z05, z04, z08, z11, z1n, z12, z13, z1h, z1t, z37, yy5, yy4, z46, z42]
    cases conn
    · rw [if_neg (by decide), z3x]
      have := hK [] none
      rw [if_neg (by decide), if_neg (by decide), List.append_nil] at this
      exact this
    · rw [if_pos rfl, z3u, z3h]
      refine comp_ok L (fun p => .tup [.int p.1, .int p.2]) (fun p => [some (.int p.1), some (.int p.2), some (.int f)]) (fun p => decide (absI (p.1 - f) = 1)) (fun p => .int p.2) ov (fun Q => by simp only [z14, z1q, z1r, z1d, z0p, z1a, z15, z1b, z0a, z09, z1f, z1e, z0o, z0u, z0v, z0s, z0r, z0q, z16, z0l, z17, z18, z1o, z1p, z0t, z0g, z0f, z0d, z0c, z0b, z0e, z0z, z0y, z0x, z0w, z10, z19, z1s, z0h, z0j, z0i, z0k, z1c, z1i, z1j, z1l, z1k, z1m, z1g, z0m, z0n, z07, z06, z05, z04, z08, z11, z1n, z12, z13, z1h, z1t, z3u, z3x, z1x, z1y, z3h, z3i, z3r, z3s, z3j, z3k, z3m, z3o, z3q, z3t, z3n, z2p, z2s, z37, z2k, z24, z25, z30, z2t, z31, z2e, z2d, z3g, z3f, z2m, z2n, z2u, z2j, z2x, z35, z2l, z3a, z38, z2i, z2q, z2y, z36, z40, z41, z3y, z45, z42, z43, z3b, z3c, z47, z1w, z3d, z46, yy0, yy1, yy2, yy3, yy4, yy5, z00, z02, z01, z03, z1v, z1u, z1z, z22, z20, z21, z2a, z28, z29, z27, z26, z2b, theGlobs, yy8, yy9, yy6, ne_eq, yy7, Nat.reduceAdd, Nat.reduceLT, if_true]) ho (by lia) (fun p _ => rfl)
        (fun p _ H' _ Q => by simp only [z14, z1q, z1r, z1d, z0p, z1a, z15, z1b, z0a, z09, z1f, z1e, z0o, z0u, z0v, z0s, z0r, z0q, z16, z0l, z17, z18, z1o, z1p, z0t, z0g, z0f, z0d, z0c, z0b, z0e, z0z, z0y, z0x, z0w, z10, z19, z1s, z0h, z0j, z0i, z0k, z1c, z1i, z1j, z1l, z1k, z1m, z1g, z0m, z0n, z07, z06, z05, z04, z08, z11, z1n, z12, z13, z1h, z1t, z3u, z3x, z1x, z1y, z3h, z3i, z3r, z3s, z3j, z3k, z3m, z3o, z3q, z3t, z3n, z2p, z2s, z37, z2k, z24, z25, z30, z2t, z31, z2e, z2d, z3g, z3f, z2m, z2n, z2u, z2j, z2x, z35, z2l, z3a, z38, z2i, z2q, z2y, z36, z40, z41, z3y, z45, z42, z43, z3b, z3c, z47, z1w, z3d, z46, yy0, yy1, yy2, yy3, yy4, yy5, z00, z02, z01, z03, z1v, z1u, z1z, z22, z20, z21, z2a, z28, z29, z27, z26, z2b, theGlobs, yy8, yy9, yy6, ne_eq, yy7, Nat.reduceAdd, Nat.reduceLT, if_true, cb_abs]) (fun p _ _ H' _ => by simp only [z14, z1q, z1r, z1d, z0p, z1a, z15, z1b, z0a, z09, z1f, z1e, z0o, z0u, z0v, z0s, z0r, z0q, z16, z0l, z17, z18, z1o, z1p, z0t, z0g, z0f, z0d, z0c, z0b, z0e, z0z, z0y, z0x, z0w, z10, z19, z1s, z0h, z0j, z0i, z0k, z1c, z1i, z1j, z1l, z1k, z1m, z1g, z0m, z0n, z07, z06, z05, z04, z08, z11, z1n, z12, z13, z1h, z1t, z3u, z3x, z1x, z1y, z3h, z3i, z3r, z3s, z3j, z3k, z3m, z3o, z3q, z3t, z3n, z2p, z2s, z37, z2k, z24, z25, z30, z2t, z31, z2e, z2d, z3g, z3f, z2m, z2n, z2u, z2j, z2x, z35, z2l, z3a, z38, z2i, z2q, z2y, z36, z40, z41, z3y, z45, z42, z43, z3b, z3c, z47, z1w, z3d, z46, yy0, yy1, yy2, yy3, yy4, yy5, z00, z02, z01, z03, z1v, z1u, z1z, z22, z20, z21, z2a, z28, z29, z27, z26, z2b, theGlobs, yy8, yy9, yy6, ne_eq, yy7, Nat.reduceAdd, Nat.reduceLT, if_true]; exact List.prefix_refl _) fun E => ?_
      have e4 : (L.filter fun p => decide (absI (p.1 - f) = 1)).map (fun p => PV.int p.2) = ivs (besideL f L) := by simp [ivs, besideL]
      rw [e4]
      have hbl : (besideL f L).length ≤ 1000 := Nat.le_trans (filter_map_len hl) (by decide)
      have eq4 : ((!decide ((4 : Int) = 0)) && decide ((4 : Int).natAbs < 1073741824)) = true := rfl
      have emin : ∀ (a b : Int) (H : AH), callB (run n) inits .min2 [.int a, .int b] H = some (.int (minI a b), H) := fun a b H => rfl
      have k1 := hK E (some (.lst (ivs (besideL f L))))
      rw [if_pos rfl, if_pos rfl] at k1
      have eMg : (3 * r + 2) * (1 + free + minI 1 (((besideL f L).count r : Nat) : Int)) + 9 * (((besideL f L).count (r - 1) : Nat) : Int) = lsMg f r L free := rfl
      rw [z0h]
      refine ⟨by simp, ?_⟩
      simp only [z14, z1q, z1r, z1d, z0p, z1a, z15, z1b, z0a, z09, z1f, z1e, z0o, z0u, z0v, z0s, z0r, z0q, z16, z0l, z17, z18, z1o, z1p, z0t, z0g, z0f, z0d, z0c, z0b, z0e, z0z, z0y, z0x, z0w, z10, z19, z1s, z0h, z0j, z0i, z0k, z1c, z1i, z1j, z1l, z1k, z1m, z1g, z0m, z0n, z07, z06, z05, z04, z08, z11, z1n, z12, z13, z1h, z1t, z3u, z3x, z1x, z1y, z3h, z3i, z3r, z3s, z3j, z3k, z3m, z3o, z3q, z3t, z3n, z2p, z2s, z37, z2k, z24, z25, z30, z2t, z31, z2e, z2d, z3g, z3f, z2m, z2n, z2u, z2j, z2x, z35, z2l, z3a, z38, z2i, z2q, z2y, z36, z40, z41, z3y, z45, z42, z43, z3b, z3c, z47, z1w, z3d, z46, yy0, yy1, yy2, yy3, yy4, yy5, z00, z02, z01, z03, z1v, z1u, z1z, z22, z20, z21, z2a, z28, z29, z27, z26, z2b, theGlobs, yy8, yy9, yy6, ne_eq, yy7, Nat.reduceAdd, Nat.reduceLT, if_true, items_lst, ints_ivs, hbl, emin, wb_mul, wb_fdiv, m10, m11, m12, m13, eq4]
      unfold lsEg lsMg at k1
      by_cases h1 : 1 < r
      · rw [if_pos h1] at k1 ⊢
        exact k1
      · rw [if_neg h1] at k1 ⊢
        exact k1
  refine cut _ fun E o14 => ?_
  generalize hq0 : (if conn = true then lsMg f r L free else 0) = q0
  generalize hp0 : (if conn = true then lsEg (lsMg f r L free) r else 0) = p0
  rw [z1x]
  rw [z3u]
  refine wp_iftup (b := iso) (a1 := q0) (a2 := p0) (c1 := q0 - 5 - 12 * free) (c2 := p0 - 15 - 11 * free) rfl rfl rfl (fun Q => by simp only [z14, z1q, z1r, z1d, z0p, z1a, z15, z1b, z0a, z09, z1f, z1e, z0o, z0u, z0v, z0s, z0r, z0q, z16, z0l, z17, z18, z1o, z1p, z0t, z0g, z0f, z0d, z0c, z0b, z0e, z0z, z0y, z0x, z0w, z10, z19, z1s, z0h, z0j, z0i, z0k, z1c, z1i, z1j, z1l, z1k, z1m, z1g, z0m, z0n, z07, z06, z05, z04, z08, z11, z1n, z12, z13, z1h, z1t, z3u, z3x, z1x, z1y, z3h, z3i, z3r, z3s, z3j, z3k, z3m, z3o, z3q, z3t, z3n, z2p, z2s, z37, z2k, z24, z25, z30, z2t, z31, z2e, z2d, z3g, z3f, z2m, z2n, z2u, z2j, z2x, z35, z2l, z3a, z38, z2i, z2q, z2y, z36, z40, z41, z3y, z45, z42, z43, z3b, z3c, z47, z1w, z3d, z46, yy0, yy1, yy2, yy3, yy4, yy5, z00, z02, z01, z03, z1v, z1u, z1z, z22, z20, z21, z2a, z28, z29, z27, z26, z2b, theGlobs, yy8, yy9, yy6, ne_eq, yy7, Nat.reduceAdd, Nat.reduceLT, if_true, wb_mul, m1, m2, m3, m4, m5, m6, m7, m8]) ?_
  generalize hq1 : (if iso = true then q0 - 5 - 12 * free else q0) = q1
  generalize hp1 : (if iso = true then p0 - 15 - 11 * free else p0) = p1
  simp only [yy3, yy2, z1x]
  rw [z3u]
  refine wp_iftup (b := back) (a1 := q1) (a2 := p1) (c1 := q1 - 9 - 12 * free) (c2 := p1 - 24 - 11 * free) rfl rfl rfl (fun Q => by simp only [z14, z1q, z1r, z1d, z0p, z1a, z15, z1b, z0a, z09, z1f, z1e, z0o, z0u, z0v, z0s, z0r, z0q, z16, z0l, z17, z18, z1o, z1p, z0t, z0g, z0f, z0d, z0c, z0b, z0e, z0z, z0y, z0x, z0w, z10, z19, z1s, z0h, z0j, z0i, z0k, z1c, z1i, z1j, z1l, z1k, z1m, z1g, z0m, z0n, z07, z06, z05, z04, z08, z11, z1n, z12, z13, z1h, z1t, z3u, z3x, z1x, z1y, z3h, z3i, z3r, z3s, z3j, z3k, z3m, z3o, z3q, z3t, z3n, z2p, z2s, z37, z2k, z24, z25, z30, z2t, z31, z2e, z2d, z3g, z3f, z2m, z2n, z2u, z2j, z2x, z35, z2l, z3a, z38, z2i, z2q, z2y, z36, z40, z41, z3y, z45, z42, z43, z3b, z3c, z47, z1w, z3d, z46, yy0, yy1, yy2, yy3, yy4, yy5, z00, z02, z01, z03, z1v, z1u, z1z, z22, z20, z21, z2a, z28, z29, z27, z26, z2b, theGlobs, yy8, yy9, yy6, ne_eq, yy7, Nat.reduceAdd, Nat.reduceLT, if_true, wb_mul, m1, m2, m3, m4, m5, m6, m7, m8]) ?_
  generalize hq2 : (if back = true then q1 - 9 - 12 * free else q1) = q2
  generalize hp2 : (if back = true then p1 - 24 - 11 * free else p1) = p2
  simp only [yy3, yy2, z1x]
  rw [z3u]
  refine wp_iftup (b := dbl) (a1 := q2) (a2 := p2) (c1 := q2 - 11) (c2 := p2 - 50) rfl rfl rfl (fun Q => by simp only [z14, z1q, z1r, z1d, z0p, z1a, z15, z1b, z0a, z09, z1f, z1e, z0o, z0u, z0v, z0s, z0r, z0q, z16, z0l, z17, z18, z1o, z1p, z0t, z0g, z0f, z0d, z0c, z0b, z0e, z0z, z0y, z0x, z0w, z10, z19, z1s, z0h, z0j, z0i, z0k, z1c, z1i, z1j, z1l, z1k, z1m, z1g, z0m, z0n, z07, z06, z05, z04, z08, z11, z1n, z12, z13, z1h, z1t, z3u, z3x, z1x, z1y, z3h, z3i, z3r, z3s, z3j, z3k, z3m, z3o, z3q, z3t, z3n, z2p, z2s, z37, z2k, z24, z25, z30, z2t, z31, z2e, z2d, z3g, z3f, z2m, z2n, z2u, z2j, z2x, z35, z2l, z3a, z38, z2i, z2q, z2y, z36, z40, z41, z3y, z45, z42, z43, z3b, z3c, z47, z1w, z3d, z46, yy0, yy1, yy2, yy3, yy4, yy5, z00, z02, z01, z03, z1v, z1u, z1z, z22, z20, z21, z2a, z28, z29, z27, z26, z2b, theGlobs, yy8, yy9, yy6, ne_eq, yy7, Nat.reduceAdd, Nat.reduceLT, if_true, wb_mul, m1, m2, m3, m4, m5, m6, m7, m8]) ?_
  generalize hq3 : (if dbl = true then q2 - 11 else q2) = q3
  generalize hp3 : (if dbl = true then p2 - 50 else p2) = p3
  simp only [yy3, yy2, z1x]
  rw [z3u]
  refine wp_iftup (b := pass) (a1 := q3) (a2 := p3) (c1 := q3 + 4 * r * r) (c2 := p3 + (6 * r + 5) * r) rfl rfl rfl (fun Q => by simp only [z14, z1q, z1r, z1d, z0p, z1a, z15, z1b, z0a, z09, z1f, z1e, z0o, z0u, z0v, z0s, z0r, z0q, z16, z0l, z17, z18, z1o, z1p, z0t, z0g, z0f, z0d, z0c, z0b, z0e, z0z, z0y, z0x, z0w, z10, z19, z1s, z0h, z0j, z0i, z0k, z1c, z1i, z1j, z1l, z1k, z1m, z1g, z0m, z0n, z07, z06, z05, z04, z08, z11, z1n, z12, z13, z1h, z1t, z3u, z3x, z1x, z1y, z3h, z3i, z3r, z3s, z3j, z3k, z3m, z3o, z3q, z3t, z3n, z2p, z2s, z37, z2k, z24, z25, z30, z2t, z31, z2e, z2d, z3g, z3f, z2m, z2n, z2u, z2j, z2x, z35, z2l, z3a, z38, z2i, z2q, z2y, z36, z40, z41, z3y, z45, z42, z43, z3b, z3c, z47, z1w, z3d, z46, yy0, yy1, yy2, yy3, yy4, yy5, z00, z02, z01, z03, z1v, z1u, z1z, z22, z20, z21, z2a, z28, z29, z27, z26, z2b, theGlobs, yy8, yy9, yy6, ne_eq, yy7, Nat.reduceAdd, Nat.reduceLT, if_true, wb_mul, m1, m2, m3, m4, m5, m6, m7, m8]) ?_
  generalize hq4 : (if pass = true then q3 + 4 * r * r else q3) = q4
  generalize hp4 : (if pass = true then p3 + (6 * r + 5) * r else p3) = p4
  simp only [yy3, yy2, z1x]
  rw [z3u]
  refine wp_iftup (b := can) (a1 := q4) (a2 := p4) (c1 := q4 + 2 * r) (c2 := p4 + 5 * r) rfl rfl rfl (fun Q => by simp only [z14, z1q, z1r, z1d, z0p, z1a, z15, z1b, z0a, z09, z1f, z1e, z0o, z0u, z0v, z0s, z0r, z0q, z16, z0l, z17, z18, z1o, z1p, z0t, z0g, z0f, z0d, z0c, z0b, z0e, z0z, z0y, z0x, z0w, z10, z19, z1s, z0h, z0j, z0i, z0k, z1c, z1i, z1j, z1l, z1k, z1m, z1g, z0m, z0n, z07, z06, z05, z04, z08, z11, z1n, z12, z13, z1h, z1t, z3u, z3x, z1x, z1y, z3h, z3i, z3r, z3s, z3j, z3k, z3m, z3o, z3q, z3t, z3n, z2p, z2s, z37, z2k, z24, z25, z30, z2t, z31, z2e, z2d, z3g, z3f, z2m, z2n, z2u, z2j, z2x, z35, z2l, z3a, z38, z2i, z2q, z2y, z36, z40, z41, z3y, z45, z42, z43, z3b, z3c, z47, z1w, z3d, z46, yy0, yy1, yy2, yy3, yy4, yy5, z00, z02, z01, z03, z1v, z1u, z1z, z22, z20, z21, z2a, z28, z29, z27, z26, z2b, theGlobs, yy8, yy9, yy6, ne_eq, yy7, Nat.reduceAdd, Nat.reduceLT, if_true, wb_mul, m1, m2, m3, m4, m5, m6, m7, m8]) ?_
  generalize hq5 : (if can = true then q4 + 2 * r else q4) = q5
  generalize hp5 : (if can = true then p4 + 5 * r else p4) = p5
  simp only [yy3, yy2, z1x]
  simp only [z14, z1q, z1r, z1d, z0p, z1a, z15, z1b, z0a, z09, z1f, z1e, z0o, z0u, z0v, z0s, z0r, z0q, z16, z0l, z17, z18, z1o, z1p, z0t, z0g, z0f, z0d, z0c, z0b, z0e, z0z, z0y, z0x, z0w, z10, z19, z1s, z0h, z0j, z0i, z0k, z1c, z1i, z1j, z1l, z1k, z1m, z1g, z0m, z0n, z07, z06, z05, z04, z08, z11, z1n, z12, z13, z1h, z1t, z3u, z3x, z1x, z1y, z3h, z3i, z3r, z3s, z3j, z3k, z3m, z3o, z3q, z3t, z3n, z2p, z2s, z37, z2k, z24, z25, z30, z2t, z31, z2e, z2d, z3g, z3f, z2m, z2n, z2u, z2j, z2x, z35, z2l, z3a, z38, z2i, z2q, z2y, z36, z40, z41, z3y, z45, z42, z43, z3b, z3c, z47, z1w, z3d, z46, yy0, yy1, yy2, yy3, yy4, yy5, z00, z02, z01, z03, z1v, z1u, z1z, z22, z20, z21, z2a, z28, z29, z27, z26, z2b, theGlobs, yy8, yy9, yy6, ne_eq, yy7, Nat.reduceAdd, Nat.reduceLT, if_true, wb_mul, m9]
  refine ⟨?_, List.prefix_append _ _⟩
  subst hq5 hp5 hq4 hp4 hq3 hp3 hq2 hp2 hq1 hp1 hq0 hp0 hfree
  rfl
end
end Mine
end

section
set_option linter.unusedSimpArgs false
set_option maxRecDepth 100000
namespace Mine
open PySem.Builtin

theorem mem_ahead {F R : Nat} {most : Int} {L : List (Int × Int)} {p : Int × Int} : p ∈ ahead F R most L ↔ ∃ q ∈ L, (p.1 = q.1 - 1 ∨ p.1 = q.1 + 1) ∧ 0 ≤ p.1 ∧ p.1 < F ∧ q.2 + 1 ≤ p.2 ∧ p.2 < minI R (q.2 + 1 + most) := by
  unfold ahead
  rw [List.mem_flatMap]
  have hr : ∀ (g a : Int) (m : Nat), p ∈ row F g a m ↔ (0 ≤ g ∧ g < F) ∧ p.1 = g ∧ a ≤ p.2 ∧ p.2 < a + m := by
    intro g a m
    unfold row
    split
    · rename_i h; rw [mem_cells]; simp [h]
    · rename_i h; constructor
      · intro q; cases q
      · intro q; exact absurd q.1 h
  constructor
  · rintro ⟨q, hq, h⟩
    refine ⟨q, hq, ?_⟩
    unfold aheadP at h
    rw [List.mem_append, hr, hr] at h
    unfold cnt at h
    generalize minI (R : Int) (q.2 + 1 + most) = M at *
    rcases h with h | h <;> lia
  · rintro ⟨q, hq, h⟩
    refine ⟨q, hq, ?_⟩
    unfold aheadP
    rw [List.mem_append, hr, hr]
    unfold cnt
    generalize minI (R : Int) (q.2 + 1 + most) = M at *
    rcases h.1 with e | e
    · left; lia
    · right; lia
theorem ahead_onB {F R : Nat} {most : Int} {L : List (Int × Int)} (hL : ∀ p ∈ L, OnB F R p) : ∀ p ∈ ahead F R most L, OnB F R p := by
  intro p hp
  obtain ⟨q, hq, h1, h2, h3, h4, h5⟩ := mem_ahead.mp hp
  have hb := hL q hq
  unfold OnB at hb ⊢
  have : minI (R : Int) (q.2 + 1 + most) ≤ R := by unfold minI; split <;> lia
  lia
theorem ahead_len {F R : Nat} (S : Shape F R) {most : Int} : ∀ {L : List (Int × Int)}, (∀ p ∈ L, OnB F R p) → (ahead F R most L).length ≤ 14 * L.length
  | [], _ => Nat.le_refl _
  | p :: L, h => by
    have ih := ahead_len S (most := most) (L := L) (fun q hq => h q (List.mem_cons_of_mem _ hq))
    have hp := h p List.mem_cons_self
    have hc := cnt_le S (most := most) hp.2.2.1
    have e : ahead F R most (p :: L) = aheadP F R most p ++ ahead F R most L := rfl
    rw [e, List.length_append, yy0, aheadP, List.length_append]
    have r1 := row_len (F := F) (g := p.1 - 1) (a := p.2 + 1) (m := cnt R most p.2)
    have r2 := row_len (F := F) (g := p.1 + 1) (a := p.2 + 1) (m := cnt R most p.2)
    lia
noncomputable def factK (L M : List (Int × Int)) (k : Nat) (p : Int × Int) : Bool := (lawPawn p.1 p.2 L M).getD k false
noncomputable def factV (L M : List (Int × Int)) (p : Int × Int) : PV := .tup [.int p.1, .int p.2, .lst (bvs (lawPawn p.1 p.2 L M))]
noncomputable def scoreV (L M : List (Int × Int)) (p : Int × Int) : Int := lawScore p.1 p.2 L (lwIso p.1 L) (lwSame p.1 p.2 L) (lwBack p.1 p.2 L M) (lwConn p.1 p.2 L) (lwSame p.1 p.2 M) (lwPass p.1 p.2 L M) (lwCand p.1 p.2 L M)
noncomputable def seen3 (F R : Nat) (sd : Int) (L : List (Int × Int)) : List Int := [(lawN F R sd L : Nat), (lawN F R sd (ahead F R 1 L) : Nat), (lawN F R sd (ahead F R R L) : Nat)]
noncomputable def seenK (F R : Nat) (sd : Int) (L M : List (Int × Int)) (k : Nat) : Int := (lawN F R sd (L.filter (factK L M k)) : Nat)
noncomputable def seenKs (F R : Nat) (sd : Int) (L M : List (Int × Int)) : Nat → Nat → List Int
  | _, 0 => []
  | k, m + 1 => seenK F R sd L M k :: seenKs F R sd L M (k + 1) m
noncomputable def seenL (F R : Nat) (sd : Int) (L M : List (Int × Int)) : List Int := seen3 F R sd L ++ seenKs F R sd L M 0 7 ++ [(L.map (scoreV L M)).sum]
theorem seenKs_len {F R : Nat} {sd : Int} {L M : List (Int × Int)} : ∀ {m k : Nat}, (seenKs F R sd L M k m).length = m
  | 0, _ => rfl
  | m + 1, k => by rw [seenKs, yy0, seenKs_len]

section
variable {n F R : Nat} {sd : Int} {H : AH}
noncomputable abbrev seenBody : Sts := .cons (.expr (.append (.var 5) (.call (.user 28) (.cons (.var 0) (.cons (.var 1) (.cons (.var 2) (.cons (.comp 3 [7] (.tuple (.cons (.var 0) (.cons (.var 1) .nil))) (.var 6) (.cons (.item (.var 2) (.var 3)) .nil)) .nil))))))) .nil
theorem seen_loop (S : Shape F R) {Q : Flw → Vars → AH → Prop} {L M : List (Int × Int)} (hL : ∀ p ∈ L, OnB F R p) (hl : L.length ≤ 64) {x y z : Int} {vs0 : List PV} {v3 v4 : Option PV} : ∀ (m k : Nat) (told : List Int) (E : AH) (v7 : Option PV), k + m = 7 → told.length + m ≤ 1000 →
    (∀ E v7, Q .next [some (.int F), some (.int R), some (.int sd), v3, v4, some (.loc H.length), some (.lst (L.map (factV L M))), v7] (H ++ .list (ivs (told ++ seenKs F R sd L M k m)) :: E)) →
    wpF (n+1) (.rng x y z) vs0 [7] seenBody (rngList (k : Int) 1 m) [some (.int F), some (.int R), some (.int sd), v3, v4, some (.loc H.length), some (.lst (L.map (factV L M))), v7] (H ++ .list (ivs told) :: E) Q
  | 0, k, told, E, v7, hk, hl', q => by
    rw [rngList]; refine wpF_nil ?_
    have := q E v7
    rw [seenKs, List.append_nil] at this
    exact ⟨rfl, this⟩
  | m + 1, k, told, E, v7, hk, hl', q => by
    have nx := fun told E v7 h q => seen_loop (M := M) S hL hl (Q := Q) (x := x) (y := y) (z := z) (vs0 := vs0) (v3 := v3) (v4 := v4) m (k + 1) told E v7 (by lia) h q
    rw [rng_cons]; refine wpF_cons ?_
    refine ⟨rfl, ?_⟩
    have g1 : ∀ (E : AH), (H ++ .list (ivs told) :: E)[H.length]? = some (.list (ivs told)) := fun E => by simp
    have s1 : ∀ (E : AH) (o : AObj), (H ++ .list (ivs told) :: E).set H.length o = H ++ o :: E := fun E o => by simp
    have e0 : ∀ x : Int, ivs told ++ [PV.int x] = ivs (told ++ [x]) := fun x => by simp [ivs]
    have hlen : (ivs told).length ≤ 1000 := by rw [ivs, List.length_map]; lia
    simp only [bindT_one, bindT_tup, setAll_cons, setAll_nil, og_t, decide_true, z14, z1q, z1r, z1d, z0p, z1a, z15, z1b, z0a, z09, z1f, z1e, z0o, z0u, z0v, z0s, z0r, z0q, z16, z0l, z17, z18, z1o, z1p, z0t, z0g, z0f, z0d, z0c, z0b, z0e, z0z, z0y, z0x, z0w, z10, z19, z1s, z0h, z0j, z0i, z0k, z1c, z1i, z1j, z1l, z1k, z1m, z1g, z0m, z0n, z07, z06, z05, z04, z08, z11, z1n, z12, z13, z1h, z1t, z3u, z3x, z1x, z1y, z3h, z3i, z3r, z3s, z3j, z3k, z3m, z3o, z3q, z3t, z3n, z2p, z2s, z37, z2k, z24, z25, z30, z2t, z31, z2e, z2d, z3g, z3f, z2m, z2n, z2u, z2j, z2x, z35, z2l, z3a, z38, z2i, z2q, z2y, z36, z40, z41, z3y, z45, z42, z43, z3b, z3c, z47, z1w, z3d, z46, yy0, yy1, yy2, yy3, yy4, yy5, z00, z02, z01, z03, z1v, z1u, z1z, z22, z20, z21, z2a, z28, z29, z27, z26, z2b, theGlobs, yy8, yy9, yy6, ne_eq, yy7, Nat.reduceAdd, Nat.reduceLT, if_true, seenBody, wpL_loc (g1 E)]
    refine comp_ok L (factV L M) (fun p => [some (.int p.1), some (.int p.2), some (.lst (bvs (lawPawn p.1 p.2 L M))), some (.int k)]) (factK L M k) (fun p => .tup [.int p.1, .int p.2]) (.lst (L.map (factV L M))) (fun Q => by simp only [z14, z1q, z1r, z1d, z0p, z1a, z15, z1b, z0a, z09, z1f, z1e, z0o, z0u, z0v, z0s, z0r, z0q, z16, z0l, z17, z18, z1o, z1p, z0t, z0g, z0f, z0d, z0c, z0b, z0e, z0z, z0y, z0x, z0w, z10, z19, z1s, z0h, z0j, z0i, z0k, z1c, z1i, z1j, z1l, z1k, z1m, z1g, z0m, z0n, z07, z06, z05, z04, z08, z11, z1n, z12, z13, z1h, z1t, z3u, z3x, z1x, z1y, z3h, z3i, z3r, z3s, z3j, z3k, z3m, z3o, z3q, z3t, z3n, z2p, z2s, z37, z2k, z24, z25, z30, z2t, z31, z2e, z2d, z3g, z3f, z2m, z2n, z2u, z2j, z2x, z35, z2l, z3a, z38, z2i, z2q, z2y, z36, z40, z41, z3y, z45, z42, z43, z3b, z3c, z47, z1w, z3d, z46, yy0, yy1, yy2, yy3, yy4, yy5, z00, z02, z01, z03, z1v, z1u, z1z, z22, z20, z21, z2a, z28, z29, z27, z26, z2b, theGlobs, yy8, yy9, yy6, ne_eq, yy7, Nat.reduceAdd, Nat.reduceLT, if_true]) Src.lst (by lia) (fun p _ => rfl)
      (fun p _ H' _ Q => ?_) (fun p _ _ H' _ => by simp only [z14, z1q, z1r, z1d, z0p, z1a, z15, z1b, z0a, z09, z1f, z1e, z0o, z0u, z0v, z0s, z0r, z0q, z16, z0l, z17, z18, z1o, z1p, z0t, z0g, z0f, z0d, z0c, z0b, z0e, z0z, z0y, z0x, z0w, z10, z19, z1s, z0h, z0j, z0i, z0k, z1c, z1i, z1j, z1l, z1k, z1m, z1g, z0m, z0n, z07, z06, z05, z04, z08, z11, z1n, z12, z13, z1h, z1t, z3u, z3x, z1x, z1y, z3h, z3i, z3r, z3s, z3j, z3k, z3m, z3o, z3q, z3t, z3n, z2p, z2s, z37, z2k, z24, z25, z30, z2t, z31, z2e, z2d, z3g, z3f, z2m, z2n, z2u, z2j, z2x, z35, z2l, z3a, z38, z2i, z2q, z2y, z36, z40, z41, z3y, z45, z42, z43, z3b, z3c, z47, z1w, z3d, z46, yy0, yy1, yy2, yy3, yy4, yy5, z00, z02, z01, z03, z1v, z1u, z1z, z22, z20, z21, z2a, z28, z29, z27, z26, z2b, theGlobs, yy8, yy9, yy6, ne_eq, yy7, Nat.reduceAdd, Nat.reduceLT, if_true, Nat.reduceLeDiff]; exact List.prefix_refl _) fun E2 => ?_
    · have e : vGetItem H' (.lst (bvs (lawPawn p.1 p.2 L M))) (.int k) = some (.bool (factK L M k p)) := by
        have h1 : (0 : Int) ≤ (k : Int) ∧ (k : Int) < 1000000 := by lia
        have h2 : (bvs (lawPawn p.1 p.2 L M))[(k : Int).toNat]? = some (.bool (factK L M k p)) := by
          rw [Int.toNat_natCast]
          have : k = 0 ∨ k = 1 ∨ k = 2 ∨ k = 3 ∨ k = 4 ∨ k = 5 ∨ k = 6 := by lia
          rcases this with rfl | rfl | rfl | rfl | rfl | rfl | rfl <;> rfl
        simp only [vGetItem, unpk, items, if_pos h1, h2]
      simp only [z14, z1q, z1r, z1d, z0p, z1a, z15, z1b, z0a, z09, z1f, z1e, z0o, z0u, z0v, z0s, z0r, z0q, z16, z0l, z17, z18, z1o, z1p, z0t, z0g, z0f, z0d, z0c, z0b, z0e, z0z, z0y, z0x, z0w, z10, z19, z1s, z0h, z0j, z0i, z0k, z1c, z1i, z1j, z1l, z1k, z1m, z1g, z0m, z0n, z07, z06, z05, z04, z08, z11, z1n, z12, z13, z1h, z1t, z3u, z3x, z1x, z1y, z3h, z3i, z3r, z3s, z3j, z3k, z3m, z3o, z3q, z3t, z3n, z2p, z2s, z37, z2k, z24, z25, z30, z2t, z31, z2e, z2d, z3g, z3f, z2m, z2n, z2u, z2j, z2x, z35, z2l, z3a, z38, z2i, z2q, z2y, z36, z40, z41, z3y, z45, z42, z43, z3b, z3c, z47, z1w, z3d, z46, yy0, yy1, yy2, yy3, yy4, yy5, z00, z02, z01, z03, z1v, z1u, z1z, z22, z20, z21, z2a, z28, z29, z27, z26, z2b, theGlobs, yy8, yy9, yy6, ne_eq, yy7, Nat.reduceAdd, Nat.reduceLT, if_true, e]
    · obtain ⟨E3, hE⟩ := ev_law_bits (n := n) (sd := sd) (H := H ++ .list (ivs told) :: (E ++ E2)) (pl := .lst (pvs (L.filter (factK L M k)))) (L := L.filter (factK L M k)) S Src.lst (fun p hp => hL p (List.mem_filter.mp hp |>.1)) (Nat.le_trans (List.length_filter_le _ _) (by lia))
      have e2 : (L.filter (factK L M k)).map (fun p => PV.tup [.int p.1, .int p.2]) = pvs (L.filter (factK L M k)) := rfl
      rw [e2]
      simp only [List.append_assoc, List.cons_append] at hE ⊢
      simp only [z14, z1q, z1r, z1d, z0p, z1a, z15, z1b, z0a, z09, z1f, z1e, z0o, z0u, z0v, z0s, z0r, z0q, z16, z0l, z17, z18, z1o, z1p, z0t, z0g, z0f, z0d, z0c, z0b, z0e, z0z, z0y, z0x, z0w, z10, z19, z1s, z0h, z0j, z0i, z0k, z1c, z1i, z1j, z1l, z1k, z1m, z1g, z0m, z0n, z07, z06, z05, z04, z08, z11, z1n, z12, z13, z1h, z1t, z3u, z3x, z1x, z1y, z3h, z3i, z3r, z3s, z3j, z3k, z3m, z3o, z3q, z3t, z3n, z2p, z2s, z37, z2k, z24, z25, z30, z2t, z31, z2e, z2d, z3g, z3f, z2m, z2n, z2u, z2j, z2x, z35, z2l, z3a, z38, z2i, z2q, z2y, z36, z40, z41, z3y, z45, z42, z43, z3b, z3c, z47, z1w, z3d, z46, yy0, yy1, yy2, yy3, yy4, yy5, z00, z02, z01, z03, z1v, z1u, z1z, z22, z20, z21, z2a, z28, z29, z27, z26, z2b, theGlobs, yy8, yy9, yy6, ne_eq, yy7, Nat.reduceAdd, Nat.reduceLT, if_true, hE, wpL_loc (g1 _), s1, e0, hlen]
      have nx' := nx (told ++ [seenK F R sd L M k]) (E ++ (E2 ++ E3)) (some (.int k)) (by rw [List.length_append, List.length_singleton]; lia)
      refine nx' fun E4 v7 => ?_
      have := q E4 v7
      rw [seenKs] at this
      rw [List.append_assoc]
      exact this
theorem callK_mid {m : Nat} {ρ : Vars} {Q : PV → AH → Prop} {vs : List PV} {E : AH} (hm : m ≤ H.length) : callK m Q (.ret (.loc H.length)) ρ (H ++ .list vs :: E) = Q (.lst vs) (H ++ .dead :: E) := by
  simp [callK, freeze, hm]
theorem ev_law_seen (S : Shape F R) {ov fv : PV} {L M : List (Int × Int)} (ho : Src H ov (pvs L)) (hf : Src H fv (pvs M)) (hL : ∀ p ∈ L, OnB F R p) (hl : L.length ≤ 64) (hm : M.length ≤ 64) :
    ∃ E, run (n+2) 32 [.int F, .int R, .int sd, ov, fv] H = some (.lst (ivs (seenL F R sd L M)), H ++ E) := by
  refine ext_of (wp_run (d := d_law_seen) rfl rfl ?_)
  show wpSs (n+1) d_law_seen.body [some (.int F), some (.int R), some (.int sd), some ov, some fv, none, none, none] H _
  have hR := S.r8; have hR3 := S.r3
  obtain ⟨E1, h1⟩ := ev_law_bits (n := n) (sd := sd) S ho hL (by lia)
  have ho1 := ho.pre (List.prefix_append H E1)
  have h2 := ev_law_ahead (n := n) (most := 1) S (by lia) ho1 hL hl
  obtain ⟨E3, h3⟩ := ev_law_bits (n := n) (sd := sd) (H := H ++ E1 ++ [.dead]) (pl := .lst (pvs (ahead F R 1 L))) (L := ahead F R 1 L) S Src.lst (ahead_onB hL) (Nat.le_trans (ahead_len S hL) (by lia))
  have ho3 := (ho1.pre (List.prefix_append _ [.dead])).pre (List.prefix_append _ E3)
  have h4 := ev_law_ahead (n := n) (most := R) S (by lia) ho3 hL hl
  obtain ⟨E5, h5⟩ := ev_law_bits (n := n) (sd := sd) (H := H ++ E1 ++ [.dead] ++ E3 ++ [.dead]) (pl := .lst (pvs (ahead F R R L))) (L := ahead F R R L) S Src.lst (ahead_onB hL) (Nat.le_trans (ahead_len S hL) (by lia))
  have ho5 := (ho3.pre (List.prefix_append _ [.dead])).pre (List.prefix_append _ E5)
  have hf5 := ((((hf.pre (List.prefix_append H E1)).pre (List.prefix_append _ [.dead])).pre (List.prefix_append _ E3)).pre (List.prefix_append _ [.dead])).pre (List.prefix_append _ E5)
  have hpre : H <+: H ++ E1 ++ [.dead] ++ E3 ++ [.dead] ++ E5 := by simp only [List.append_assoc]; exact List.prefix_append _ _
  simp only [d_law_seen, z14, z1q, z1r, z1d, z0p, z1a, z15, z1b, z0a, z09, z1f, z1e, z0o, z0u, z0v, z0s, z0r, z0q, z16, z0l, z17, z18, z1o, z1p, z0t, z0g, z0f, z0d, z0c, z0b, z0e, z0z, z0y, z0x, z0w, z10, z19, z1s, z0h, z0j, z0i, z0k, z1c, z1i, z1j, z1l, z1k, z1m, z1g, z0m, z0n, z07, z06, z05, z04, z08, z11, z1n, z12, z13, z1h, z1t, z3u, z3x, z1x, z1y, z3h, z3i, z3r, z3s, z3j, z3k, z3m, z3o, z3q, z3t, z3n, z2p, z2s, z37, z2k, z24, z25, z30, z2t, z31, z2e, z2d, z3g, z3f, z2m, z2n, z2u, z2j, z2x, z35, z2l, z3a, z38, z2i, z2q, z2y, z36, z40, z41, z3y, z45, z42, z43, z3b, z3c, z47, z1w, z3d, z46, yy0, yy1, yy2, yy3, yy4, yy5, z00, z02, z01, z03, z1v, z1u, z1z, z22, z20, z21, z2a, z28, z29, z27, z26, z2b, theGlobs, yy8, yy9, yy6, ne_eq, yy7, Nat.reduceAdd, Nat.reduceLT, if_true, h1, h2, h3, h4, h5, Nat.reduceLeDiff]
  generalize H ++ E1 ++ [.dead] ++ E3 ++ [.dead] ++ E5 = B at *
  have hoB := ho5.pre (List.prefix_append B [.list (ivs (seen3 F R sd L))])
  have hfB := hf5.pre (List.prefix_append B [.list (ivs (seen3 F R sd L))])
  refine comp_ok L (fun p => .tup [.int p.1, .int p.2]) (fun p => [some (.int p.1), some (.int p.2), some ov, some fv]) (fun _ => true) (factV L M) ov (fun Q => by simp only [z14, z1q, z1r, z1d, z0p, z1a, z15, z1b, z0a, z09, z1f, z1e, z0o, z0u, z0v, z0s, z0r, z0q, z16, z0l, z17, z18, z1o, z1p, z0t, z0g, z0f, z0d, z0c, z0b, z0e, z0z, z0y, z0x, z0w, z10, z19, z1s, z0h, z0j, z0i, z0k, z1c, z1i, z1j, z1l, z1k, z1m, z1g, z0m, z0n, z07, z06, z05, z04, z08, z11, z1n, z12, z13, z1h, z1t, z3u, z3x, z1x, z1y, z3h, z3i, z3r, z3s, z3j, z3k, z3m, z3o, z3q, z3t, z3n, z2p, z2s, z37, z2k, z24, z25, z30, z2t, z31, z2e, z2d, z3g, z3f, z2m, z2n, z2u, z2j, z2x, z35, z2l, z3a, z38, z2i, z2q, z2y, z36, z40, z41, z3y, z45, z42, z43, z3b, z3c, z47, z1w, z3d, z46, yy0, yy1, yy2, yy3, yy4, yy5, z00, z02, z01, z03, z1v, z1u, z1z, z22, z20, z21, z2a, z28, z29, z27, z26, z2b, theGlobs, yy8, yy9, yy6, ne_eq, yy7, Nat.reduceAdd, Nat.reduceLT, if_true]) hoB (by lia) (fun p _ => rfl)
    (fun p _ H' _ Q => by simp only [z14, z1q, z1r, z1d, z0p, z1a, z15, z1b, z0a, z09, z1f, z1e, z0o, z0u, z0v, z0s, z0r, z0q, z16, z0l, z17, z18, z1o, z1p, z0t, z0g, z0f, z0d, z0c, z0b, z0e, z0z, z0y, z0x, z0w, z10, z19, z1s, z0h, z0j, z0i, z0k, z1c, z1i, z1j, z1l, z1k, z1m, z1g, z0m, z0n, z07, z06, z05, z04, z08, z11, z1n, z12, z13, z1h, z1t, z3u, z3x, z1x, z1y, z3h, z3i, z3r, z3s, z3j, z3k, z3m, z3o, z3q, z3t, z3n, z2p, z2s, z37, z2k, z24, z25, z30, z2t, z31, z2e, z2d, z3g, z3f, z2m, z2n, z2u, z2j, z2x, z35, z2l, z3a, z38, z2i, z2q, z2y, z36, z40, z41, z3y, z45, z42, z43, z3b, z3c, z47, z1w, z3d, z46, yy0, yy1, yy2, yy3, yy4, yy5, z00, z02, z01, z03, z1v, z1u, z1z, z22, z20, z21, z2a, z28, z29, z27, z26, z2b, theGlobs, yy8, yy9, yy6, ne_eq, yy7, Nat.reduceAdd, Nat.reduceLT, if_true]) (fun p _ _ H' hp => ?_) fun E6 => ?_
  · obtain ⟨E7, h7⟩ := ev_law_pawn (n := n) (f := p.1) (r := p.2) (hoB.pre hp) (hfB.pre hp) hl hm
    simp only [z14, z1q, z1r, z1d, z0p, z1a, z15, z1b, z0a, z09, z1f, z1e, z0o, z0u, z0v, z0s, z0r, z0q, z16, z0l, z17, z18, z1o, z1p, z0t, z0g, z0f, z0d, z0c, z0b, z0e, z0z, z0y, z0x, z0w, z10, z19, z1s, z0h, z0j, z0i, z0k, z1c, z1i, z1j, z1l, z1k, z1m, z1g, z0m, z0n, z07, z06, z05, z04, z08, z11, z1n, z12, z13, z1h, z1t, z3u, z3x, z1x, z1y, z3h, z3i, z3r, z3s, z3j, z3k, z3m, z3o, z3q, z3t, z3n, z2p, z2s, z37, z2k, z24, z25, z30, z2t, z31, z2e, z2d, z3g, z3f, z2m, z2n, z2u, z2j, z2x, z35, z2l, z3a, z38, z2i, z2q, z2y, z36, z40, z41, z3y, z45, z42, z43, z3b, z3c, z47, z1w, z3d, z46, yy0, yy1, yy2, yy3, yy4, yy5, z00, z02, z01, z03, z1v, z1u, z1z, z22, z20, z21, z2a, z28, z29, z27, z26, z2b, theGlobs, yy8, yy9, yy6, ne_eq, yy7, Nat.reduceAdd, Nat.reduceLT, if_true, h7, Nat.reduceLeDiff]
    exact ⟨rfl, List.prefix_append _ _⟩
  · have ef : (L.filter fun _ => true).map (factV L M) = L.map (factV L M) := by rw [List.filter_eq_self.mpr (fun _ _ => rfl)]
    rw [ef]
    have e1 : ∀ H : AH, callB (run (n+1)) inits .range1 [.int 7] H = some (.rng 0 7 1, H) := fun H => rfl
    have e2 : ∀ H : AH, source H (.rng 0 7 1) = some (rngList 0 1 7) := fun H => rfl
    simp only [z14, z1q, z1r, z1d, z0p, z1a, z15, z1b, z0a, z09, z1f, z1e, z0o, z0u, z0v, z0s, z0r, z0q, z16, z0l, z17, z18, z1o, z1p, z0t, z0g, z0f, z0d, z0c, z0b, z0e, z0z, z0y, z0x, z0w, z10, z19, z1s, z0h, z0j, z0i, z0k, z1c, z1i, z1j, z1l, z1k, z1m, z1g, z0m, z0n, z07, z06, z05, z04, z08, z11, z1n, z12, z13, z1h, z1t, z3u, z3x, z1x, z1y, z3h, z3i, z3r, z3s, z3j, z3k, z3m, z3o, z3q, z3t, z3n, z2p, z2s, z37, z2k, z24, z25, z30, z2t, z31, z2e, z2d, z3g, z3f, z2m, z2n, z2u, z2j, z2x, z35, z2l, z3a, z38, z2i, z2q, z2y, z36, z40, z41, z3y, z45, z42, z43, z3b, z3c, z47, z1w, z3d, z46, yy0, yy1, yy2, yy3, yy4, yy5, z00, z02, z01, z03, z1v, z1u, z1z, z22, z20, z21, z2a, z28, z29, z27, z26, z2b, theGlobs, yy8, yy9, yy6, ne_eq, yy7, Nat.reduceAdd, Nat.reduceLT, if_true, e1, e2, rngList_len, Nat.reduceLeDiff, List.append_assoc, List.cons_append, List.nil_append]
    refine seen_loop S hL hl 7 0 (seen3 F R sd L) E6 _ rfl (show 3 + 7 ≤ 1000 by decide) fun E8 v7 => ?_
    have g1 : ∀ E : AH, (B ++ .list (ivs (seen3 F R sd L ++ seenKs F R sd L M 0 7)) :: E)[B.length]? = some (.list (ivs (seen3 F R sd L ++ seenKs F R sd L M 0 7))) := fun E => by simp
    have s1 : ∀ (E : AH) (o : AObj), (B ++ .list (ivs (seen3 F R sd L ++ seenKs F R sd L M 0 7)) :: E).set B.length o = B ++ o :: E := fun E o => by simp
    have hlen : (ivs (seen3 F R sd L ++ seenKs F R sd L M 0 7)).length ≤ 1000 := by
      rw [ivs, List.length_map, List.length_append, seenKs_len]; exact (by decide : 3 + 7 ≤ 1000)
    have hoE : Src (B ++ .list (ivs (seen3 F R sd L ++ seenKs F R sd L M 0 7)) :: E8) ov (pvs L) := ho5.pre (List.prefix_append _ _)
    simp only [z14, z1q, z1r, z1d, z0p, z1a, z15, z1b, z0a, z09, z1f, z1e, z0o, z0u, z0v, z0s, z0r, z0q, z16, z0l, z17, z18, z1o, z1p, z0t, z0g, z0f, z0d, z0c, z0b, z0e, z0z, z0y, z0x, z0w, z10, z19, z1s, z0h, z0j, z0i, z0k, z1c, z1i, z1j, z1l, z1k, z1m, z1g, z0m, z0n, z07, z06, z05, z04, z08, z11, z1n, z12, z13, z1h, z1t, z3u, z3x, z1x, z1y, z3h, z3i, z3r, z3s, z3j, z3k, z3m, z3o, z3q, z3t, z3n, z2p, z2s, z37, z2k, z24, z25, z30, z2t, z31, z2e, z2d, z3g, z3f, z2m, z2n, z2u, z2j, z2x, z35, z2l, z3a, z38, z2i, z2q, z2y, z36, z40, z41, z3y, z45, z42, z43, z3b, z3c, z47, z1w, z3d, z46, yy0, yy1, yy2, yy3, yy4, yy5, z00, z02, z01, z03, z1v, z1u, z1z, z22, z20, z21, z2a, z28, z29, z27, z26, z2b, theGlobs, yy8, yy9, yy6, ne_eq, yy7, Nat.reduceAdd, Nat.reduceLT, if_true, wpL_loc (g1 _)]
    refine comp_ok L (factV L M) (fun p => [some (.int p.1), some (.int p.2), some (.lst (bvs (lawPawn p.1 p.2 L M))), some ov]) (fun _ => true) (fun p => .int (scoreV L M p)) (.lst (L.map (factV L M))) (fun Q => by simp only [z14, z1q, z1r, z1d, z0p, z1a, z15, z1b, z0a, z09, z1f, z1e, z0o, z0u, z0v, z0s, z0r, z0q, z16, z0l, z17, z18, z1o, z1p, z0t, z0g, z0f, z0d, z0c, z0b, z0e, z0z, z0y, z0x, z0w, z10, z19, z1s, z0h, z0j, z0i, z0k, z1c, z1i, z1j, z1l, z1k, z1m, z1g, z0m, z0n, z07, z06, z05, z04, z08, z11, z1n, z12, z13, z1h, z1t, z3u, z3x, z1x, z1y, z3h, z3i, z3r, z3s, z3j, z3k, z3m, z3o, z3q, z3t, z3n, z2p, z2s, z37, z2k, z24, z25, z30, z2t, z31, z2e, z2d, z3g, z3f, z2m, z2n, z2u, z2j, z2x, z35, z2l, z3a, z38, z2i, z2q, z2y, z36, z40, z41, z3y, z45, z42, z43, z3b, z3c, z47, z1w, z3d, z46, yy0, yy1, yy2, yy3, yy4, yy5, z00, z02, z01, z03, z1v, z1u, z1z, z22, z20, z21, z2a, z28, z29, z27, z26, z2b, theGlobs, yy8, yy9, yy6, ne_eq, yy7, Nat.reduceAdd, Nat.reduceLT, if_true]) Src.lst (by lia) (fun p _ => rfl)
      (fun p _ H' _ Q => by simp only [z14, z1q, z1r, z1d, z0p, z1a, z15, z1b, z0a, z09, z1f, z1e, z0o, z0u, z0v, z0s, z0r, z0q, z16, z0l, z17, z18, z1o, z1p, z0t, z0g, z0f, z0d, z0c, z0b, z0e, z0z, z0y, z0x, z0w, z10, z19, z1s, z0h, z0j, z0i, z0k, z1c, z1i, z1j, z1l, z1k, z1m, z1g, z0m, z0n, z07, z06, z05, z04, z08, z11, z1n, z12, z13, z1h, z1t, z3u, z3x, z1x, z1y, z3h, z3i, z3r, z3s, z3j, z3k, z3m, z3o, z3q, z3t, z3n, z2p, z2s, z37, z2k, z24, z25, z30, z2t, z31, z2e, z2d, z3g, z3f, z2m, z2n, z2u, z2j, z2x, z35, z2l, z3a, z38, z2i, z2q, z2y, z36, z40, z41, z3y, z45, z42, z43, z3b, z3c, z47, z1w, z3d, z46, yy0, yy1, yy2, yy3, yy4, yy5, z00, z02, z01, z03, z1v, z1u, z1z, z22, z20, z21, z2a, z28, z29, z27, z26, z2b, theGlobs, yy8, yy9, yy6, ne_eq, yy7, Nat.reduceAdd, Nat.reduceLT, if_true]) (fun p hpL _ H' hp => ?_) fun E9 => ?_
    · have hb := hL p hpL
      unfold OnB at hb
      obtain ⟨E7, h7⟩ := ev_law_score (n := n) (f := p.1) (r := p.2) (iso := lwIso p.1 L) (dbl := lwSame p.1 p.2 L) (back := lwBack p.1 p.2 L M) (conn := lwConn p.1 p.2 L) (opp := lwSame p.1 p.2 M) (pass := lwPass p.1 p.2 L M) (can := lwCand p.1 p.2 L M) (hoE.pre hp) hl (by lia)
      unfold lawPawn
      simp only [z14, z1q, z1r, z1d, z0p, z1a, z15, z1b, z0a, z09, z1f, z1e, z0o, z0u, z0v, z0s, z0r, z0q, z16, z0l, z17, z18, z1o, z1p, z0t, z0g, z0f, z0d, z0c, z0b, z0e, z0z, z0y, z0x, z0w, z10, z19, z1s, z0h, z0j, z0i, z0k, z1c, z1i, z1j, z1l, z1k, z1m, z1g, z0m, z0n, z07, z06, z05, z04, z08, z11, z1n, z12, z13, z1h, z1t, z3u, z3x, z1x, z1y, z3h, z3i, z3r, z3s, z3j, z3k, z3m, z3o, z3q, z3t, z3n, z2p, z2s, z37, z2k, z24, z25, z30, z2t, z31, z2e, z2d, z3g, z3f, z2m, z2n, z2u, z2j, z2x, z35, z2l, z3a, z38, z2i, z2q, z2y, z36, z40, z41, z3y, z45, z42, z43, z3b, z3c, z47, z1w, z3d, z46, yy0, yy1, yy2, yy3, yy4, yy5, z00, z02, z01, z03, z1v, z1u, z1z, z22, z20, z21, z2a, z28, z29, z27, z26, z2b, theGlobs, yy8, yy9, yy6, ne_eq, yy7, Nat.reduceAdd, Nat.reduceLT, if_true, h7]
      exact ⟨rfl, List.prefix_append _ _⟩
    · have e3 : (L.filter fun _ => true).map (fun p => PV.int (scoreV L M p)) = ivs (L.map (scoreV L M)) := by rw [List.filter_eq_self.mpr (fun _ _ => rfl)]; simp [ivs]
      have e4 : ∀ (H : AH) (l : List Int), callB (run (n+1)) inits .sum [.lst (ivs l)] H = some (.int l.sum, H) := fun H l => by
        exact cb_sum' rfl (ints_ivs l)
      have e5 : ∀ x : Int, ivs (seen3 F R sd L ++ seenKs F R sd L M 0 7) ++ [PV.int x] = ivs (seen3 F R sd L ++ seenKs F R sd L M 0 7 ++ [x]) := fun x => by simp [ivs]
      rw [e3]
      simp only [z14, z1q, z1r, z1d, z0p, z1a, z15, z1b, z0a, z09, z1f, z1e, z0o, z0u, z0v, z0s, z0r, z0q, z16, z0l, z17, z18, z1o, z1p, z0t, z0g, z0f, z0d, z0c, z0b, z0e, z0z, z0y, z0x, z0w, z10, z19, z1s, z0h, z0j, z0i, z0k, z1c, z1i, z1j, z1l, z1k, z1m, z1g, z0m, z0n, z07, z06, z05, z04, z08, z11, z1n, z12, z13, z1h, z1t, z3u, z3x, z1x, z1y, z3h, z3i, z3r, z3s, z3j, z3k, z3m, z3o, z3q, z3t, z3n, z2p, z2s, z37, z2k, z24, z25, z30, z2t, z31, z2e, z2d, z3g, z3f, z2m, z2n, z2u, z2j, z2x, z35, z2l, z3a, z38, z2i, z2q, z2y, z36, z40, z41, z3y, z45, z42, z43, z3b, z3c, z47, z1w, z3d, z46, yy0, yy1, yy2, yy3, yy4, yy5, z00, z02, z01, z03, z1v, z1u, z1z, z22, z20, z21, z2a, z28, z29, z27, z26, z2b, theGlobs, yy8, yy9, yy6, ne_eq, yy7, Nat.reduceAdd, Nat.reduceLT, if_true, e4, List.append_assoc, List.cons_append, wpL_loc (g1 _), s1, hlen]
      rw [e5, callK_mid (hpre.length_le)]
      exact ⟨rfl, hpre.trans (List.prefix_append _ _)⟩
end
end Mine
end

section
set_option linter.unusedSimpArgs false
set_option maxRecDepth 100000
namespace Mine
open PySem.Builtin

theorem colFold_bit (F i : Nat) : ∀ R, ((List.range R).foldl (fun c r => c ||| (1 <<< (r * F))) 0).testBit i = true ↔ ∃ r, r < R ∧ i = r * F
  | 0 => by simp
  | R + 1 => by
    rw [List.range_succ, List.foldl_append, List.foldl_cons, List.foldl_nil, Nat.testBit_or, Nat.one_shiftLeft, Nat.testBit_two_pow, Bool.or_eq_true, colFold_bit F i R, yy6]
    constructor
    · rintro (⟨r, h1, h2⟩ | h)
      · exact ⟨r, by lia, h2⟩
      · exact ⟨R, by lia, h.symm⟩
    · rintro ⟨r, h1, h2⟩
      by_cases e : r = R
      · subst e; right; exact h2.symm
      · left; exact ⟨r, by lia, h2⟩
theorem colMask_bit {F R f s : Nat} (hf : f < F) : (colMask F R f).testBit s = true ↔ s < F * R ∧ s % F = f := by
  unfold colMask
  rw [Nat.testBit_shiftLeft, Bool.and_eq_true, yy6, colFold_bit]
  constructor
  · rintro ⟨h1, r, h2, h3⟩
    have e : s = f + r * F := by lia
    subst e
    refine ⟨?_, by rw [Nat.add_mul_mod_self_right, Nat.mod_eq_of_lt hf]⟩
    have : (r + 1) * F ≤ R * F := Nat.mul_le_mul_right F h2
    rw [Nat.add_mul, Nat.one_mul] at this
    rw [Nat.mul_comm F R]; lia
  · rintro ⟨h1, h2⟩
    have h3 := Nat.mod_add_div s F
    rw [h2] at h3
    refine ⟨by lia, s / F, Nat.div_lt_of_lt_mul h1, ?_⟩
    rw [Nat.mul_comm (s / F) F]; lia
noncomputable def rankMask (F r : Nat) : Nat := (2 ^ F - 1) <<< (r * F)
theorem rankMask_bit {F r s : Nat} (hF : 0 < F) : (rankMask F r).testBit s = true ↔ s / F = r := by
  unfold rankMask
  rw [Nat.testBit_shiftLeft, Nat.testBit_two_pow_sub_one, Bool.and_eq_true, yy6, yy6]
  have h3 := Nat.mod_add_div s F
  have h4 := Nat.mod_lt s hF
  constructor
  · rintro ⟨h1, h2⟩
    rw [show s = (s - r * F) + r * F by lia, Nat.add_mul_div_right _ _ hF, Nat.div_eq_of_lt h2, yy7]
  · rintro rfl
    rw [Nat.mul_comm]; lia

section
variable {n F R : Nat} {H : AH}
noncomputable def geoFs (F R b k19 k23 : Nat) : List (Nat × PV) := [(10, .int F), (11, .int R), (12, .int (F * R : Nat)), (13, .int ((2 ^ (F * R) - 1 : Nat) : Int)), (14, .bool false), (15, .bool false), (16, .loc (b + 1)), (17, .loc (b + 2)), (18, .loc (b + 3)), (19, .loc (b + k19)), (20, .loc (b + 5)), (21, .loc (b + 8)), (22, .loc (b + 9)), (23, .loc (b + k23))]
theorem ev_Geometry (S : Shape F R) : run (n+1) 18 [.loc H.length, .int F, .int R, .bool false, .bool false] (H ++ .inst 1 [] :: []) =
    some (.none, H ++ [.inst 1 (geoFs F R H.length 4 10), .list [], .list [], .list [], .list [], .list [], .list [], .list [], .list [.loc (H.length + 6), .loc (H.length + 7)], .list [], .list []]) := by
  refine wpO_eq (wp_run (d := d_Geometry_init) rfl rfl ?_)
  show wpSs n d_Geometry_init.body [some (.loc H.length), some (.int F), some (.int R), some (.bool false), some (.bool false)] (H ++ .inst 1 [] :: []) _
  have e : ∀ (k : Nat) (v : PV) (fs : List (Nat × PV)) (E : AH), fs.length < 100 → vSetAttr (H ++ .inst 1 fs :: E) (.loc H.length) k v = some (H ++ .inst 1 (putF k v fs) :: E) := fun k v fs E h => vset_mid h
  have m1 : ∀ y, (small (F : Int) || small y) = true := fun y => by rw [smallF (by have := S.f8; lia)]; simp
  have hsz := S.sz
  have p0 := Nat.two_pow_pos (F * R)
  have e2 : ((1 <<< (F * R) : Nat) : Int) - 1 = ((2 ^ (F * R) - 1 : Nat) : Int) := by rw [Nat.one_shiftLeft]; lia
  simp only [d_Geometry_init, z14, z1q, z1r, z1d, z0p, z1a, z15, z1b, z0a, z09, z1f, z1e, z0o, z0u, z0v, z0s, z0r, z0q, z16, z0l, z17, z18, z1o, z1p, z0t, z0g, z0f, z0d, z0c, z0b, z0e, z0z, z0y, z0x, z0w, z10, z19, z1s, z0h, z0j, z0i, z0k, z1c, z1i, z1j, z1l, z1k, z1m, z1g, z0m, z0n, z07, z06, z05, z04, z08, z11, z1n, z12, z13, z1h, z1t, z3u, z3x, z1x, z1y, z3h, z3i, z3r, z3s, z3j, z3k, z3m, z3o, z3q, z3t, z3n, z2p, z2s, z37, z2k, z24, z25, z30, z2t, z31, z2f, z32, z2e, z2d, z3g, z3f, z2m, z2n, z2u, z2j, z2x, z35, z2l, z3a, z38, z2i, z2q, z2y, z36, z2o, z40, z41, z3y, z45, z42, z43, z3b, z3c, z47, z1w, z3d, z46, yy0, yy1, yy2, yy3, yy4, yy5, z00, z02, z01, z03, z1v, z1u, z1z, z22, z20, z21, z2a, z28, z29, z27, z26, z2b, theGlobs, yy8, yy9, yy6, ne_eq, yy7, Nat.reduceAdd, Nat.reduceLT, if_true, wb_mul, m1, ← Int.natCast_mul, wb_one_shl (show F * R ≤ 1000000 by lia), e2, Bool.false_eq_true, if_false, Nat.reduceLeDiff]
  repeat (rw [e _ _ _ _ (by simp [putF]), z47]; simp only [z14, z1q, z1r, z1d, z0p, z1a, z15, z1b, z0a, z09, z1f, z1e, z0o, z0u, z0v, z0s, z0r, z0q, z16, z0l, z17, z18, z1o, z1p, z0t, z0g, z0f, z0d, z0c, z0b, z0e, z0z, z0y, z0x, z0w, z10, z19, z1s, z0h, z0j, z0i, z0k, z1c, z1i, z1j, z1l, z1k, z1m, z1g, z0m, z0n, z07, z06, z05, z04, z08, z11, z1n, z12, z13, z1h, z1t, z3u, z3x, z1x, z1y, z3h, z3i, z3r, z3s, z3j, z3k, z3m, z3o, z3q, z3t, z3n, z2p, z2s, z37, z2k, z24, z25, z30, z2t, z31, z2f, z32, z2e, z2d, z3g, z3f, z2m, z2n, z2u, z2j, z2x, z35, z2l, z3a, z38, z2i, z2q, z2y, z36, z2o, z40, z41, z3y, z45, z42, z43, z3b, z3c, z47, z1w, z3d, z46, yy0, yy1, yy2, yy3, yy4, yy5, z00, z02, z01, z03, z1v, z1u, z1z, z22, z20, z21, z2a, z28, z29, z27, z26, z2b, theGlobs, yy8, yy9, yy6, ne_eq, yy7, Nat.reduceAdd, Nat.reduceLT, if_true, wb_mul, m1, ← Int.natCast_mul, wb_one_shl (show F * R ≤ 1000000 by lia), e2, Bool.false_eq_true, if_false, Nat.reduceLeDiff, List.append_assoc, List.cons_append, List.nil_append, List.length_append])
  simp [geoFs, putF]
end
end Mine
end

section
set_option linter.unusedSimpArgs false
set_option maxRecDepth 100000
namespace Mine
open PySem.Builtin

theorem set_ne {X : AH} {i j : Nat} {o p : AObj} (h : X[i]? = some o) (e : j ≠ i) : (X.set j p)[i]? = some o := by
  rw [List.getElem?_set_ne e]; exact h
theorem set_eq {X : AH} {j : Nat} {o p : AObj} (h : X[j]? = some o) : (X.set j p)[j]? = some p := by
  have := (List.getElem?_eq_some_iff.mp h).1
  rw [List.getElem?_set_self this]
theorem set_pre {H X : AH} {j : Nat} {p : AObj} (h : H <+: X) (e : H.length ≤ j) : H <+: X.set j p := by
  obtain ⟨E, rfl⟩ := h
  exact ⟨E.set (j - H.length) p, by rw [List.set_append_right _ _ e]⟩
theorem get_lt {X : AH} {i : Nat} {o : AObj} (h : X[i]? = some o) : i < X.length := (List.getElem?_eq_some_iff.mp h).1

noncomputable def fmL (F R : Nat) : List PV := (List.range F).map fun f => .int (colMask F R f : Nat)
noncomputable def rmL (F R : Nat) : List PV := (List.range R).map fun r => .int (rankMask F r : Nat)
structure GS (H X : AH) (F R k19 k23 : Nat) (rays : List Nat) (kn p0 p1 cs : Nat) : Prop where
  pre : H <+: X
  g0 : X[H.length]? = some (.inst 1 (geoFs F R H.length k19 k23))
  fm : X[H.length + 1]? = some (.list (fmL F R))
  rm : X[H.length + 2]? = some (.list (rmL F R))
  ry : X[H.length + 3]? = some (.list (rays.map .loc))
  kn : ∃ l : List PV, X[H.length + 5]? = some (.list l) ∧ l.length = kn
  p0 : ∃ l : List PV, X[H.length + 6]? = some (.list l) ∧ l.length = p0
  p1 : ∃ l : List PV, X[H.length + 7]? = some (.list l) ∧ l.length = p1
  pw : X[H.length + 8]? = some (.list [.loc (H.length + 6), .loc (H.length + 7)])
  cs : ∃ l : List PV, X[H.length + 9]? = some (.list l) ∧ l.length = cs
  rk : ∀ l ∈ rays, H.length + 11 ≤ l ∧ ∃ r : List Nat, X[l]? = some (.list (pints r)) ∧ r.length = F * R
  ln : H.length + 11 ≤ X.length
noncomputable def King (H X : AH) (N k : Nat) : Prop := 11 ≤ k ∧ ∃ r : List Nat, X[H.length + k]? = some (.list (pints r)) ∧ r.length = N
section
variable {H X E : AH} {F R k19 k23 kn p0 p1 cs : Nat} {rays : List Nat}
theorem GS.push (g : GS H X F R k19 k23 rays kn p0 p1 cs) : GS H (X ++ E) F R k19 k23 rays kn p0 p1 cs := by
  have hp : X <+: X ++ E := List.prefix_append _ _
  obtain ⟨a1, a2, a3, a4, a5, ⟨l6, a6, b6⟩, ⟨l7, a7, b7⟩, ⟨l8, a8, b8⟩, a9, ⟨l10, a10, b10⟩, a11, a12⟩ := g
  refine ⟨a1.trans hp, pre_get hp a2, pre_get hp a3, pre_get hp a4, pre_get hp a5, ⟨l6, pre_get hp a6, b6⟩, ⟨l7, pre_get hp a7, b7⟩, ⟨l8, pre_get hp a8, b8⟩, pre_get hp a9, ⟨l10, pre_get hp a10, b10⟩, fun l hl => ?_, by rw [List.length_append]; lia⟩
  obtain ⟨c1, r, c2, c3⟩ := a11 l hl
  exact ⟨c1, r, pre_get hp c2, c3⟩
theorem King.push {N k : Nat} (h : King H X N k) : King H (X ++ E) N k := by
  obtain ⟨a, r, b, c⟩ := h; exact ⟨a, r, pre_get (List.prefix_append _ _) b, c⟩
theorem GS.setO (g : GS H X F R k19 k23 rays kn p0 p1 cs) {j : Nat} {o : AObj} (hj : H.length + 11 ≤ j) (hr : j ∉ rays) : GS H (X.set j o) F R k19 k23 rays kn p0 p1 cs := by
  obtain ⟨a1, a2, a3, a4, a5, ⟨l6, a6, b6⟩, ⟨l7, a7, b7⟩, ⟨l8, a8, b8⟩, a9, ⟨l10, a10, b10⟩, a11, a12⟩ := g
  refine ⟨set_pre a1 (by lia), set_ne a2 (by lia), set_ne a3 (by lia), set_ne a4 (by lia), set_ne a5 (by lia), ⟨l6, set_ne a6 (by lia), b6⟩, ⟨l7, set_ne a7 (by lia), b7⟩, ⟨l8, set_ne a8 (by lia), b8⟩, set_ne a9 (by lia), ⟨l10, set_ne a10 (by lia), b10⟩, fun l hl => ?_, by rw [List.length_set]; lia⟩
  obtain ⟨c1, r, c2, c3⟩ := a11 l hl
  exact ⟨c1, r, set_ne c2 (fun e => hr (by rw [e]; exact hl)), c3⟩
theorem GS.set0 (g : GS H X F R k19 k23 rays kn p0 p1 cs) {k k' : Nat} : GS H (X.set H.length (.inst 1 (geoFs F R H.length k k'))) F R k k' rays kn p0 p1 cs := by
  obtain ⟨a1, a2, a3, a4, a5, ⟨l6, a6, b6⟩, ⟨l7, a7, b7⟩, ⟨l8, a8, b8⟩, a9, ⟨l10, a10, b10⟩, a11, a12⟩ := g
  refine ⟨set_pre a1 (by lia), set_eq a2, set_ne a3 (by lia), set_ne a4 (by lia), set_ne a5 (by lia), ⟨l6, set_ne a6 (by lia), b6⟩, ⟨l7, set_ne a7 (by lia), b7⟩, ⟨l8, set_ne a8 (by lia), b8⟩, set_ne a9 (by lia), ⟨l10, set_ne a10 (by lia), b10⟩, fun l hl => ?_, by rw [List.length_set]; lia⟩
  obtain ⟨c1, r, c2, c3⟩ := a11 l hl
  exact ⟨c1, r, set_ne c2 (by lia), c3⟩
theorem GS.set3 (g : GS H X F R k19 k23 rays kn p0 p1 cs) {x : Nat} (h : H.length + 11 ≤ x ∧ ∃ r : List Nat, X[x]? = some (.list (pints r)) ∧ r.length = F * R) : GS H (X.set (H.length + 3) (.list ((rays ++ [x]).map .loc))) F R k19 k23 (rays ++ [x]) kn p0 p1 cs := by
  obtain ⟨a1, a2, a3, a4, a5, ⟨l6, a6, b6⟩, ⟨l7, a7, b7⟩, ⟨l8, a8, b8⟩, a9, ⟨l10, a10, b10⟩, a11, a12⟩ := g
  refine ⟨set_pre a1 (by lia), set_ne a2 (by lia), set_ne a3 (by lia), set_ne a4 (by lia), set_eq a5, ⟨l6, set_ne a6 (by lia), b6⟩, ⟨l7, set_ne a7 (by lia), b7⟩, ⟨l8, set_ne a8 (by lia), b8⟩, set_ne a9 (by lia), ⟨l10, set_ne a10 (by lia), b10⟩, fun l hl => ?_, by rw [List.length_set]; lia⟩
  have : H.length + 11 ≤ l ∧ ∃ r : List Nat, X[l]? = some (.list (pints r)) ∧ r.length = F * R := by
    rcases List.mem_append.mp hl with q | q
    · exact a11 l q
    · rw [List.mem_singleton] at q; subst q; exact h
  obtain ⟨c1, r, c2, c3⟩ := this
  exact ⟨c1, r, set_ne c2 (by lia), c3⟩
theorem GS.set5 (g : GS H X F R k19 k23 rays kn p0 p1 cs) {l : List PV} : GS H (X.set (H.length + 5) (.list l)) F R k19 k23 rays l.length p0 p1 cs := by
  obtain ⟨a1, a2, a3, a4, a5, ⟨l6, a6, b6⟩, ⟨l7, a7, b7⟩, ⟨l8, a8, b8⟩, a9, ⟨l10, a10, b10⟩, a11, a12⟩ := g
  refine ⟨set_pre a1 (by lia), set_ne a2 (by lia), set_ne a3 (by lia), set_ne a4 (by lia), set_ne a5 (by lia), ⟨l, set_eq a6, rfl⟩, ⟨l7, set_ne a7 (by lia), b7⟩, ⟨l8, set_ne a8 (by lia), b8⟩, set_ne a9 (by lia), ⟨l10, set_ne a10 (by lia), b10⟩, fun l hl => ?_, by rw [List.length_set]; lia⟩
  obtain ⟨c1, r, c2, c3⟩ := a11 l hl
  exact ⟨c1, r, set_ne c2 (by lia), c3⟩
theorem GS.set6 (g : GS H X F R k19 k23 rays kn p0 p1 cs) {l : List PV} : GS H (X.set (H.length + 6) (.list l)) F R k19 k23 rays kn l.length p1 cs := by
  obtain ⟨a1, a2, a3, a4, a5, ⟨l6, a6, b6⟩, ⟨l7, a7, b7⟩, ⟨l8, a8, b8⟩, a9, ⟨l10, a10, b10⟩, a11, a12⟩ := g
  refine ⟨set_pre a1 (by lia), set_ne a2 (by lia), set_ne a3 (by lia), set_ne a4 (by lia), set_ne a5 (by lia), ⟨l6, set_ne a6 (by lia), b6⟩, ⟨l, set_eq a7, rfl⟩, ⟨l8, set_ne a8 (by lia), b8⟩, set_ne a9 (by lia), ⟨l10, set_ne a10 (by lia), b10⟩, fun l hl => ?_, by rw [List.length_set]; lia⟩
  obtain ⟨c1, r, c2, c3⟩ := a11 l hl
  exact ⟨c1, r, set_ne c2 (by lia), c3⟩
theorem GS.set7 (g : GS H X F R k19 k23 rays kn p0 p1 cs) {l : List PV} : GS H (X.set (H.length + 7) (.list l)) F R k19 k23 rays kn p0 l.length cs := by
  obtain ⟨a1, a2, a3, a4, a5, ⟨l6, a6, b6⟩, ⟨l7, a7, b7⟩, ⟨l8, a8, b8⟩, a9, ⟨l10, a10, b10⟩, a11, a12⟩ := g
  refine ⟨set_pre a1 (by lia), set_ne a2 (by lia), set_ne a3 (by lia), set_ne a4 (by lia), set_ne a5 (by lia), ⟨l6, set_ne a6 (by lia), b6⟩, ⟨l7, set_ne a7 (by lia), b7⟩, ⟨l, set_eq a8, rfl⟩, set_ne a9 (by lia), ⟨l10, set_ne a10 (by lia), b10⟩, fun l hl => ?_, by rw [List.length_set]; lia⟩
  obtain ⟨c1, r, c2, c3⟩ := a11 l hl
  exact ⟨c1, r, set_ne c2 (by lia), c3⟩
theorem GS.set9 (g : GS H X F R k19 k23 rays kn p0 p1 cs) {l : List PV} : GS H (X.set (H.length + 9) (.list l)) F R k19 k23 rays kn p0 p1 l.length := by
  obtain ⟨a1, a2, a3, a4, a5, ⟨l6, a6, b6⟩, ⟨l7, a7, b7⟩, ⟨l8, a8, b8⟩, a9, ⟨l10, a10, b10⟩, a11, a12⟩ := g
  refine ⟨set_pre a1 (by lia), set_ne a2 (by lia), set_ne a3 (by lia), set_ne a4 (by lia), set_ne a5 (by lia), ⟨l6, set_ne a6 (by lia), b6⟩, ⟨l7, set_ne a7 (by lia), b7⟩, ⟨l8, set_ne a8 (by lia), b8⟩, set_ne a9 (by lia), ⟨l, set_eq a10, rfl⟩, fun l hl => ?_, by rw [List.length_set]; lia⟩
  obtain ⟨c1, r, c2, c3⟩ := a11 l hl
  exact ⟨c1, r, set_ne c2 (by lia), c3⟩
theorem King.setN {N k j : Nat} {o : AObj} (h : King H X N k) (e : j ≠ H.length + k) : King H (X.set j o) N k := by
  obtain ⟨a, r, b, c⟩ := h; exact ⟨a, r, set_ne b e, c⟩
theorem attr_of {c : Nat} {fs : List (Nat × PV)} {l k : Nat} {v : PV} (h : X[l]? = some (.inst c fs)) (e : getF k fs = some v) : vGetAttr X (.loc l) k = some v := by
  simp only [vGetAttr, h, e]
theorem GS.at (g : GS H X F R k19 k23 rays kn p0 p1 cs) : vGetAttr X (.loc H.length) 10 = some (.int F) ∧ vGetAttr X (.loc H.length) 11 = some (.int R) ∧ vGetAttr X (.loc H.length) 12 = some (.int (F * R : Nat)) ∧ vGetAttr X (.loc H.length) 13 = some (.int ((2 ^ (F * R) - 1 : Nat) : Int)) ∧
    vGetAttr X (.loc H.length) 15 = some (.bool false) ∧ vGetAttr X (.loc H.length) 16 = some (.loc (H.length + 1)) ∧ vGetAttr X (.loc H.length) 17 = some (.loc (H.length + 2)) ∧ vGetAttr X (.loc H.length) 18 = some (.loc (H.length + 3)) ∧ vGetAttr X (.loc H.length) 19 = some (.loc (H.length + k19)) ∧
    vGetAttr X (.loc H.length) 20 = some (.loc (H.length + 5)) ∧ vGetAttr X (.loc H.length) 21 = some (.loc (H.length + 8)) ∧ vGetAttr X (.loc H.length) 22 = some (.loc (H.length + 9)) ∧ vGetAttr X (.loc H.length) 23 = some (.loc (H.length + k23)) :=
  ⟨attr_of g.g0 rfl, attr_of g.g0 rfl, attr_of g.g0 rfl, attr_of g.g0 rfl, attr_of g.g0 rfl, attr_of g.g0 rfl, attr_of g.g0 rfl, attr_of g.g0 rfl, attr_of g.g0 rfl, attr_of g.g0 rfl, attr_of g.g0 rfl, attr_of g.g0 rfl, attr_of g.g0 rfl⟩
theorem item_of {l k : Nat} {vs : List PV} {v : PV} (h : X[l]? = some (.list vs)) (e : vs[k]? = some v) (hk : k < 1000000) : vGetItem X (.loc l) (.int k) = some v := by
  have h1 : (0 : Int) ≤ (k : Int) ∧ (k : Int) < 1000000 := by lia
  simp only [vGetItem, unpk, items, h, if_pos h1, Int.toNat_natCast, e]
theorem setItem_of {l k : Nat} {vs : List PV} {v : PV} (h : X[l]? = some (.list vs)) (e : k < vs.length) (hk : k < 1000000) : vSetItem X (.loc l) (.int k) v = some (X.set l (.list (vs.set k v))) := by
  have h1 : (0 : Int) ≤ (k : Int) ∧ (k : Int) < 1000000 ∧ k < vs.length := by lia
  simp only [vSetItem, h, Int.toNat_natCast, if_pos h1]
theorem pints_len {l : List Nat} : (pints l).length = l.length := by rw [pints, List.length_map]
theorem pints_get {l : List Nat} {k : Nat} (h : k < l.length) : (pints l)[k]? = some (.int (l[k] : Nat)) := by
  simp [pints, h]
theorem pints_set {l : List Nat} {k x : Nat} : (pints l).set k (.int (x : Nat)) = pints (l.set k x) := by
  simp [pints, List.map_set]
end

section
variable {n F R : Nat} {H : AH}
noncomputable def tm (F R b : Nat) (fm rm : List PV) : AH := [.inst 1 (geoFs F R b 4 10), .list fm, .list rm, .list [], .list [], .list [], .list [], .list [], .list [.loc (b + 6), .loc (b + 7)], .list [], .list []]
theorem tm_get (fm rm : List PV) : (H ++ tm F R H.length fm rm)[H.length]? = some (.inst 1 (geoFs F R H.length 4 10)) ∧ (H ++ tm F R H.length fm rm)[H.length + 1]? = some (.list fm) ∧ (H ++ tm F R H.length fm rm)[H.length + 2]? = some (.list rm) := by
  refine ⟨?_, ?_, ?_⟩ <;> simp [tm]
theorem tm_set1 (fm rm x : List PV) : (H ++ tm F R H.length fm rm).set (H.length + 1) (.list x) = H ++ tm F R H.length x rm := by simp [tm]
theorem tm_set2 (fm rm x : List PV) : (H ++ tm F R H.length fm rm).set (H.length + 2) (.list x) = H ++ tm F R H.length fm x := by simp [tm]
noncomputable abbrev maskBody1 : Sts := .cons (.expr (.append (.attr (.var 0) 17) (.bin .shl (.var 1) (.bin .mul (.var 3) (.attr (.var 0) 10))))) (.cons (.aug 2 .bor (.bin .shl (.const (.int 1)) (.bin .mul (.var 3) (.attr (.var 0) 10)))) .nil)
noncomputable def colN (F k : Nat) : Nat := (List.range k).foldl (fun c r => c ||| (1 <<< (r * F))) 0
theorem mask_loop1 (S : Shape F R) {Q : Flw → Vars → AH → Prop} {x y z : Int} {vs0 : List PV} {v4 : Option PV} : ∀ (m k : Nat) (v3 : Option PV), k + m = R →
    (∀ v3, Q .next [some (.loc H.length), some (.int (2 ^ F - 1 : Nat)), some (.int (colN F R : Nat)), v3, v4] (H ++ tm F R H.length [] (rmL F R))) →
    wpF n (.rng x y z) vs0 [3] maskBody1 (rngList (k : Int) 1 m) [some (.loc H.length), some (.int (2 ^ F - 1 : Nat)), some (.int (colN F k : Nat)), v3, v4] (H ++ tm F R H.length [] (rmL F k)) Q
  | 0, k, v3, hk, q => by
    rw [Nat.add_zero] at hk; subst hk
    rw [rngList]; refine wpF_nil ?_
    exact ⟨rfl, q _⟩
  | m + 1, k, v3, hk, q => by
    have nx := fun v3 => mask_loop1 S (Q := Q) (x := x) (y := y) (z := z) (vs0 := vs0) (v4 := v4) m (k + 1) v3 (by lia) q
    rw [rng_cons]; refine wpF_cons ?_
    refine ⟨rfl, ?_⟩
    obtain ⟨t0, t1, t2⟩ := tm_get (H := H) (F := F) (R := R) [] (rmL F k)
    obtain ⟨u0, u1, u2⟩ := tm_get (H := H) (F := F) (R := R) [] (rmL F k ++ [.int (rankMask F k : Nat)])
    have a10 : vGetAttr (H ++ tm F R H.length [] (rmL F k)) (.loc H.length) 10 = some (.int F) := attr_of t0 rfl
    have a17 : vGetAttr (H ++ tm F R H.length [] (rmL F k)) (.loc H.length) 17 = some (.loc (H.length + 2)) := attr_of t0 rfl
    have b10 : vGetAttr (H ++ tm F R H.length [] (rmL F k ++ [.int (rankMask F k : Nat)])) (.loc H.length) 10 = some (.int F) := attr_of u0 rfl
    have hF := S.f8; have hR := S.r8
    have m1 : ∀ y, (small y || small (F : Int)) = true := fun y => by rw [smallF (by lia)]; simp
    have hkF : k * F ≤ 1000000 := Nat.le_trans (Nat.mul_le_mul (show k ≤ 8 by lia) hF) (by decide)
    have hrow : 2 ^ F - 1 < 2 ^ 64 := by
      have := Nat.pow_le_pow_right (show 0 < 2 by decide) (show F ≤ 64 by lia)
      have h0 := Nat.two_pow_pos F
      lia
    have hlen : (rmL F k).length ≤ 1000 := by rw [rmL, List.length_map, List.length_range]; lia
    have e1 : (PV.int (((2 ^ F - 1) <<< (k * F) : Nat) : Int)) = .int (rankMask F k : Nat) := rfl
    have e2 : rmL F k ++ [.int (rankMask F k : Nat)] = rmL F (k + 1) := by rw [rmL, rmL, List.range_succ, List.map_append]; rfl
    have e3 : colN F k ||| (1 <<< (k * F)) = colN F (k + 1) := by rw [colN, colN, List.range_succ, List.foldl_append]; rfl
    simp only [bindT_one, bindT_tup, setAll_cons, setAll_nil, og_t, decide_true, z14, z1q, z1r, z1d, z0p, z1a, z15, z1b, z0a, z09, z1f, z1e, z0o, z0u, z0v, z0s, z0r, z0q, z16, z0l, z17, z18, z1o, z1p, z0t, z0g, z0f, z0d, z0c, z0b, z0e, z0z, z0y, z0x, z0w, z10, z19, z1s, z0h, z0j, z0i, z0k, z1c, z1i, z1j, z1l, z1k, z1m, z1g, z0m, z0n, z07, z06, z05, z04, z08, z11, z1n, z12, z13, z1h, z1t, z3u, z3x, z1x, z1y, z3h, z3i, z3r, z3s, z3j, z3k, z3m, z3o, z3q, z3t, z3n, z2p, z2s, z37, z2k, z24, z25, z30, z2t, z31, z2e, z2d, z3g, z3f, z2m, z2n, z2u, z2j, z2x, z35, z2l, z3a, z38, z2i, z2q, z2y, z36, z40, z41, z3y, z45, z42, z43, z3b, z3c, z47, z1w, z3d, z46, yy0, yy1, yy2, yy3, yy4, yy5, z00, z02, z01, z03, z1v, z1u, z1z, z22, z20, z21, z2a, z28, z29, z27, z26, z2b, theGlobs, yy8, yy9, yy6, ne_eq, yy7, Nat.reduceAdd, Nat.reduceLT, if_true, maskBody1, a10, a17, wb_mul, m1, ← Int.natCast_mul, wb_shlN hkF hrow, wb_one_shl hkF, wpL_loc t2, tm_set2, e1, hlen, b10, borN, e3]
    rw [e2]
    exact nx _
noncomputable abbrev maskBody2 : Sts := .cons (.expr (.append (.attr (.var 0) 16) (.bin .shl (.var 2) (.var 4)))) .nil
theorem col0_lt (hF : 0 < F) : colN F R < 2 ^ (F * R) := by
  refine Nat.lt_pow_two_of_testBit _ fun i hi => ?_
  rw [← Bool.not_eq_true]
  intro h
  obtain ⟨r, h1, h2⟩ := (colFold_bit F i R).mp h
  have : (r + 1) * F ≤ R * F := Nat.mul_le_mul_right F h1
  rw [Nat.add_mul, Nat.one_mul] at this
  rw [Nat.mul_comm F R] at hi
  lia
theorem mask_loop2 (S : Shape F R) {Q : Flw → Vars → AH → Prop} {x y z : Int} {vs0 : List PV} {v1 v3 : Option PV} : ∀ (m k : Nat) (v4 : Option PV), k + m = F →
    (∀ v4, Q .next [some (.loc H.length), v1, some (.int (colN F R : Nat)), v3, v4] (H ++ tm F R H.length (fmL F R) (rmL F R))) →
    wpF n (.rng x y z) vs0 [4] maskBody2 (rngList (k : Int) 1 m) [some (.loc H.length), v1, some (.int (colN F R : Nat)), v3, v4] (H ++ tm F R H.length ((List.range k).map fun f => .int (colMask F R f : Nat)) (rmL F R)) Q
  | 0, k, v4, hk, q => by
    rw [Nat.add_zero] at hk; subst hk
    rw [rngList]; refine wpF_nil ?_
    exact ⟨rfl, q _⟩
  | m + 1, k, v4, hk, q => by
    have nx := fun v4 => mask_loop2 S (Q := Q) (x := x) (y := y) (z := z) (vs0 := vs0) (v1 := v1) (v3 := v3) m (k + 1) v4 (by lia) q
    rw [rng_cons]; refine wpF_cons ?_
    refine ⟨rfl, ?_⟩
    generalize hfm : ((List.range k).map fun f => PV.int (colMask F R f : Nat)) = fm at *
    obtain ⟨t0, t1, t2⟩ := tm_get (H := H) (F := F) (R := R) fm (rmL F R)
    have a16 : vGetAttr (H ++ tm F R H.length fm (rmL F R)) (.loc H.length) 16 = some (.loc (H.length + 1)) := attr_of t0 rfl
    have hF := S.f8; have hR := S.r8
    have h64 : colN F R < 2 ^ 64 := S.lt64 (col0_lt (by have := S.f2; lia))
    have hlen : fm.length ≤ 1000 := by rw [← hfm, List.length_map, List.length_range]; lia
    have e1 : (PV.int ((colN F R <<< k : Nat) : Int)) = .int (colMask F R k : Nat) := rfl
    have e2 : fm ++ [.int (colMask F R k : Nat)] = (List.range (k + 1)).map fun f => PV.int (colMask F R f : Nat) := by rw [← hfm, List.range_succ, List.map_append]; rfl
    simp only [bindT_one, bindT_tup, setAll_cons, setAll_nil, og_t, decide_true, z14, z1q, z1r, z1d, z0p, z1a, z15, z1b, z0a, z09, z1f, z1e, z0o, z0u, z0v, z0s, z0r, z0q, z16, z0l, z17, z18, z1o, z1p, z0t, z0g, z0f, z0d, z0c, z0b, z0e, z0z, z0y, z0x, z0w, z10, z19, z1s, z0h, z0j, z0i, z0k, z1c, z1i, z1j, z1l, z1k, z1m, z1g, z0m, z0n, z07, z06, z05, z04, z08, z11, z1n, z12, z13, z1h, z1t, z3u, z3x, z1x, z1y, z3h, z3i, z3r, z3s, z3j, z3k, z3m, z3o, z3q, z3t, z3n, z2p, z2s, z37, z2k, z24, z25, z30, z2t, z31, z2e, z2d, z3g, z3f, z2m, z2n, z2u, z2j, z2x, z35, z2l, z3a, z38, z2i, z2q, z2y, z36, z40, z41, z3y, z45, z42, z43, z3b, z3c, z47, z1w, z3d, z46, yy0, yy1, yy2, yy3, yy4, yy5, z00, z02, z01, z03, z1v, z1u, z1z, z22, z20, z21, z2a, z28, z29, z27, z26, z2b, theGlobs, yy8, yy9, yy6, ne_eq, yy7, Nat.reduceAdd, Nat.reduceLT, if_true, maskBody2, a16, wb_shlN (show k ≤ 1000000 by lia) h64, wpL_loc t1, tm_set1, e1, hlen]
    rw [e2]
    exact nx _
theorem ev_add_masks (S : Shape F R) : run (n+1) 20 [.loc H.length] (H ++ tm F R H.length [] []) = some (.none, H ++ tm F R H.length (fmL F R) (rmL F R)) := by
  refine wpO_eq (wp_run (d := d_add_masks) rfl rfl ?_)
  show wpSs n d_add_masks.body [some (.loc H.length), none, none, none, none] (H ++ tm F R H.length [] []) _
  obtain ⟨t0, t1, t2⟩ := tm_get (H := H) (F := F) (R := R) [] []
  obtain ⟨u0, u1, u2⟩ := tm_get (H := H) (F := F) (R := R) [] (rmL F R)
  have a10 : vGetAttr (H ++ tm F R H.length [] []) (.loc H.length) 10 = some (.int F) := attr_of t0 rfl
  have a11 : vGetAttr (H ++ tm F R H.length [] []) (.loc H.length) 11 = some (.int R) := attr_of t0 rfl
  have b10 : vGetAttr (H ++ tm F R H.length [] (rmL F R)) (.loc H.length) 10 = some (.int F) := attr_of u0 rfl
  have hF := S.f8; have hR := S.r8
  have e1 : ((1 <<< F : Nat) : Int) - 1 = ((2 ^ F - 1 : Nat) : Int) := by
    have := Nat.two_pow_pos F
    rw [Nat.one_shiftLeft]; lia
  have e3 : ∀ (N : Nat) (H : AH), N ≤ 64 → callB (run n) inits .range1 [.int N] H = some (.rng 0 N 1, H) := fun N H h => by
    exact cb_r1 (by simp [okRng]; lia)
  have e4 : ∀ (N : Nat) (H : AH), N ≤ 64 → source H (.rng 0 N 1) = some (rngList 0 1 N) := fun N H h => by
    have : okRng 0 N 1 = true := by simp [okRng]; lia
    simp only [source, this, if_true, rngSize]; congr 2
  simp only [d_add_masks, z14, z1q, z1r, z1d, z0p, z1a, z15, z1b, z0a, z09, z1f, z1e, z0o, z0u, z0v, z0s, z0r, z0q, z16, z0l, z17, z18, z1o, z1p, z0t, z0g, z0f, z0d, z0c, z0b, z0e, z0z, z0y, z0x, z0w, z10, z19, z1s, z0h, z0j, z0i, z0k, z1c, z1i, z1j, z1l, z1k, z1m, z1g, z0m, z0n, z07, z06, z05, z04, z08, z11, z1n, z12, z13, z1h, z1t, z3u, z3x, z1x, z1y, z3h, z3i, z3r, z3s, z3j, z3k, z3m, z3o, z3q, z3t, z3n, z2p, z2s, z37, z2k, z24, z25, z30, z2t, z31, z2e, z2d, z3g, z3f, z2m, z2n, z2u, z2j, z2x, z35, z2l, z3a, z38, z2i, z2q, z2y, z36, z40, z41, z3y, z45, z42, z43, z3b, z3c, z47, z1w, z3d, z46, yy0, yy1, yy2, yy3, yy4, yy5, z00, z02, z01, z03, z1v, z1u, z1z, z22, z20, z21, z2a, z28, z29, z27, z26, z2b, theGlobs, yy8, yy9, yy6, ne_eq, yy7, Nat.reduceAdd, Nat.reduceLT, if_true, a10, a11, wb_one_shl (show F ≤ 1000000 by lia), e1, e3 R _ (by lia), e4 R _ (by lia), rngList_len]
  refine ⟨by lia, ?_⟩
  refine mask_loop1 (k := 0) S R _ (by lia) fun v3 => ?_
  simp only [z14, z1q, z1r, z1d, z0p, z1a, z15, z1b, z0a, z09, z1f, z1e, z0o, z0u, z0v, z0s, z0r, z0q, z16, z0l, z17, z18, z1o, z1p, z0t, z0g, z0f, z0d, z0c, z0b, z0e, z0z, z0y, z0x, z0w, z10, z19, z1s, z0h, z0j, z0i, z0k, z1c, z1i, z1j, z1l, z1k, z1m, z1g, z0m, z0n, z07, z06, z05, z04, z08, z11, z1n, z12, z13, z1h, z1t, z3u, z3x, z1x, z1y, z3h, z3i, z3r, z3s, z3j, z3k, z3m, z3o, z3q, z3t, z3n, z2p, z2s, z37, z2k, z24, z25, z30, z2t, z31, z2e, z2d, z3g, z3f, z2m, z2n, z2u, z2j, z2x, z35, z2l, z3a, z38, z2i, z2q, z2y, z36, z40, z41, z3y, z45, z42, z43, z3b, z3c, z47, z1w, z3d, z46, yy0, yy1, yy2, yy3, yy4, yy5, z00, z02, z01, z03, z1v, z1u, z1z, z22, z20, z21, z2a, z28, z29, z27, z26, z2b, theGlobs, yy8, yy9, yy6, ne_eq, yy7, Nat.reduceAdd, Nat.reduceLT, if_true, b10, e3 F _ (show F ≤ 64 by lia), e4 F _ (show F ≤ 64 by lia), rngList_len]
  refine ⟨by lia, ?_⟩
  refine mask_loop2 (k := 0) S F _ (by lia) fun v4 => ?_
  simp only [z14, z1q, z1r, z1d, z0p, z1a, z15, z1b, z0a, z09, z1f, z1e, z0o, z0u, z0v, z0s, z0r, z0q, z16, z0l, z17, z18, z1o, z1p, z0t, z0g, z0f, z0d, z0c, z0b, z0e, z0z, z0y, z0x, z0w, z10, z19, z1s, z0h, z0j, z0i, z0k, z1c, z1i, z1j, z1l, z1k, z1m, z1g, z0m, z0n, z07, z06, z05, z04, z08, z11, z1n, z12, z13, z1h, z1t, z3u, z3x, z1x, z1y, z3h, z3i, z3r, z3s, z3j, z3k, z3m, z3o, z3q, z3t, z3n, z2p, z2s, z37, z2k, z24, z25, z30, z2t, z31, z2e, z2d, z3g, z3f, z2m, z2n, z2u, z2j, z2x, z35, z2l, z3a, z38, z2i, z2q, z2y, z36, z40, z41, z3y, z45, z42, z43, z3b, z3c, z47, z1w, z3d, z46, yy0, yy1, yy2, yy3, yy4, yy5, z00, z02, z01, z03, z1v, z1u, z1z, z22, z20, z21, z2a, z28, z29, z27, z26, z2b, theGlobs, yy8, yy9, yy6, ne_eq, yy7, Nat.reduceAdd, Nat.reduceLT, if_true]
end
end Mine
end

section
set_option linter.unusedSimpArgs false
set_option maxRecDepth 100000
namespace Mine
open PySem.Builtin

noncomputable def edgeN (F R : Nat) (df dr : Int) : Nat :=
  let e1 := if 0 < df then 0 ||| colMask F R (F - 1) else 0
  let e2 := if df < 0 then e1 ||| colMask F R 0 else e1
  let e3 := if 0 < dr then e2 ||| rankMask F (R - 1) else e2
  if dr < 0 then e3 ||| rankMask F 0 else e3
noncomputable def innerN (F R : Nat) (df dr : Int) : Nat := andn (2 ^ (F * R) - 1) (edgeN F R df dr)
structure Way (d : Nat) (df dr : Int) : Prop where
  d8 : d < 8
  f : ∀ H : AH, vGetItem H (tupI [0, 1, 0, -1, 1, 1, -1, -1]) (.int d) = some (.int df)
  r : ∀ H : AH, vGetItem H (tupI [1, 0, -1, 0, 1, -1, -1, 1]) (.int d) = some (.int dr)
  df1 : -1 ≤ df ∧ df ≤ 1
  dr1 : -1 ≤ dr ∧ dr ≤ 1
theorem way {d : Nat} (h : d < 8) : ∃ df dr, Way d df dr := by
  have : d = 0 ∨ d = 1 ∨ d = 2 ∨ d = 3 ∨ d = 4 ∨ d = 5 ∨ d = 6 ∨ d = 7 := by lia
  rcases this with rfl | rfl | rfl | rfl | rfl | rfl | rfl | rfl
  · exact ⟨0, 1, by decide, fun _ => rfl, fun _ => rfl, by decide, by decide⟩
  · exact ⟨1, 0, by decide, fun _ => rfl, fun _ => rfl, by decide, by decide⟩
  · exact ⟨0, -1, by decide, fun _ => rfl, fun _ => rfl, by decide, by decide⟩
  · exact ⟨-1, 0, by decide, fun _ => rfl, fun _ => rfl, by decide, by decide⟩
  · exact ⟨1, 1, by decide, fun _ => rfl, fun _ => rfl, by decide, by decide⟩
  · exact ⟨1, -1, by decide, fun _ => rfl, fun _ => rfl, by decide, by decide⟩
  · exact ⟨-1, -1, by decide, fun _ => rfl, fun _ => rfl, by decide, by decide⟩
  · exact ⟨-1, 1, by decide, fun _ => rfl, fun _ => rfl, by decide, by decide⟩
theorem inner_goal {F R : Nat} (S : Shape F R) {df dr : Int} (h1 : -1 ≤ df ∧ df ≤ 1) (h2 : -1 ≤ dr ∧ dr ≤ 1) {s : Nat} (h : (innerN F R df dr).testBit s = true) : s < F * R ∧ 0 ≤ (s : Int) + (dr * F + df) ∧ (s : Int) + (dr * F + df) < (F * R : Nat) := by
  unfold innerN at h
  rw [andn_bit, Nat.testBit_two_pow_sub_one, Bool.and_eq_true, yy6, Bool.not_eq_true'] at h
  obtain ⟨hs, he⟩ := h
  have hF := S.f2; have hR := S.r3
  have cf : (colMask F R (F - 1)).testBit s = true ↔ s % F = F - 1 := by rw [colMask_bit (by lia)]; simp [hs]
  have c0 : (colMask F R 0).testBit s = true ↔ s % F = 0 := by rw [colMask_bit (by lia)]; simp [hs]
  have r1 := rankMask_bit (F := F) (r := R - 1) (s := s) (by lia)
  have r0 := rankMask_bit (F := F) (r := 0) (s := s) (by lia)
  have hd := Nat.mod_add_div s F
  have hm := Nat.mod_lt s (show 0 < F by lia)
  have hq : s / F < R := Nat.div_lt_of_lt_mul hs
  have key : (0 < df → s % F ≠ F - 1) ∧ (df < 0 → s % F ≠ 0) ∧ (0 < dr → s / F ≠ R - 1) ∧ (dr < 0 → s / F ≠ 0) := by
    rw [← Bool.not_eq_true] at he
    refine ⟨fun a b => he ?_, fun a b => he ?_, fun a b => he ?_, fun a b => he ?_⟩ <;> unfold edgeN <;> dsimp only
    · rw [if_pos a]; have := cf.mpr b
      split <;> split <;> split <;> simp [Nat.testBit_or, this]
    · rw [if_pos a]; have := c0.mpr b
      split <;> split <;> simp [Nat.testBit_or, this]
    · rw [if_pos a]; have := r1.mpr b
      split <;> simp [Nat.testBit_or, this]
    · rw [if_pos a]; have := r0.mpr b
      simp [Nat.testBit_or, this]
  generalize s / F = q at *
  generalize s % F = f at *
  subst hd
  obtain ⟨k1, k2, k3, k4⟩ := key
  refine ⟨hs, ?_⟩
  have hmul : ∀ j : Nat, j < R → F * j + F ≤ F * R := fun j hj => by
    rw [← Nat.mul_succ]; exact Nat.mul_le_mul_left F hj
  have hz : ((F * q : Nat) : Int) = (F : Int) * q := Int.natCast_mul F q
  have hdr : dr = -1 ∨ dr = 0 ∨ dr = 1 := by lia
  rcases hdr with rfl | rfl | rfl
  · have : 1 ≤ q := by have := k4 (by decide); lia
    have h5 : F * 1 ≤ F * q := Nat.mul_le_mul_left F this
    have h6 := hmul q hq
    rw [Int.neg_mul, Int.one_mul]
    constructor <;> lia
  · have h6 := hmul q hq
    rw [Int.zero_mul]
    constructor <;> lia
  · have : q + 1 < R := by have := k3 (by decide); lia
    have h6 := hmul (q + 1) this
    rw [Nat.mul_succ] at h6
    rw [Int.one_mul]
    constructor <;> lia

section
variable {n F R d k19 k23 kn p0 p1 cs : Nat} {rays : List Nat} {H X : AH} {df dr : Int}
theorem fmL_get {f : Nat} (h : f < F) : (fmL F R)[f]? = some (.int (colMask F R f : Nat)) := by simp [fmL, h]
theorem rmL_get {r : Nat} (h : r < R) : (rmL F R)[r]? = some (.int (rankMask F r : Nat)) := by simp [rmL, h]
theorem ev_inner (S : Shape F R) (W : Way d df dr) (g : GS H X F R k19 k23 rays kn p0 p1 cs) : run (n+1) 21 [.loc H.length, .int d] X = some (.int (innerN F R df dr : Nat), X) := by
  refine wpO_eq (wp_run (d := d_inner_squares) rfl rfl ?_)
  show wpSs n d_inner_squares.body [some (.loc H.length), some (.int d), none] X _
  obtain ⟨a10, a11, a12, a13, a15, a16, a17, a18, a19, a20, a21, a22, a23⟩ := g.at
  have hF := S.f2; have hR := S.r3; have hF8 := S.f8; have hR8 := S.r8
  have i1 : vGetItem X (.loc (H.length + 1)) (.int ((F : Int) - 1)) = some (.int (colMask F R (F - 1) : Nat)) := by
    rw [show ((F : Int) - 1) = ((F - 1 : Nat) : Int) by lia]; exact item_of g.fm (fmL_get (by lia)) (by lia)
  have i2 : vGetItem X (.loc (H.length + 1)) (.int 0) = some (.int (colMask F R 0 : Nat)) := item_of (k := 0) g.fm (fmL_get (by lia)) (by lia)
  have i3 : vGetItem X (.loc (H.length + 2)) (.int ((R : Int) - 1)) = some (.int (rankMask F (R - 1) : Nat)) := by
    rw [show ((R : Int) - 1) = ((R - 1 : Nat) : Int) by lia]; exact item_of g.rm (rmL_get (by lia)) (by lia)
  have i4 : vGetItem X (.loc (H.length + 2)) (.int 0) = some (.int (rankMask F 0 : Nat)) := item_of (k := 0) g.rm (rmL_get (by lia)) (by lia)
  unfold d_inner_squares
  rw [z3u]
  simp only [z14, z1q, z1r, z1d, z0p, z1a, z15, z1b, z0a, z09, z1f, z1e, z0o, z0u, z0v, z0s, z0r, z0q, z16, z0l, z17, z18, z1o, z1p, z0t, z0g, z0f, z0d, z0c, z0b, z0e, z0z, z0y, z0x, z0w, z10, z19, z1s, z0h, z0j, z0i, z0k, z1c, z1i, z1j, z1l, z1k, z1m, z1g, z0m, z0n, z07, z06, z05, z04, z08, z11, z1n, z12, z13, z1h, z1t, z3h, z2p, yy0, yy1, yy7, Nat.reduceAdd, Nat.reduceLT, yy8, yy3, yy2, z1x]
  rw [z3u]
  refine wp_ifaug (b := decide (0 < df)) (a := ((0 : Nat) : Int)) (d := (colMask F R (F - 1) : Nat)) (r := (0 ||| colMask F R (F - 1) : Nat)) rfl (fun Q => by simp only [z14, z1q, z1r, z1d, z0p, z1a, z15, z1b, z0a, z09, z1f, z1e, z0o, z0u, z0v, z0s, z0r, z0q, z16, z0l, z17, z18, z1o, z1p, z0t, z0g, z0f, z0d, z0c, z0b, z0e, z0z, z0y, z0x, z0w, z10, z19, z1s, z0h, z0j, z0i, z0k, z1c, z1i, z1j, z1l, z1k, z1m, z1g, z0m, z0n, z07, z06, z05, z04, z08, z11, z1n, z12, z13, z1h, z1t, z3u, z3x, z1x, z1y, z3h, z3i, z3r, z3s, z3j, z3k, z3m, z3o, z3q, z3t, z3n, z2p, z2s, z37, z2k, z24, z25, z30, z2t, z31, z2e, z2d, z3g, z3f, z2m, z2n, z2u, z2j, z2x, z35, z2l, z3a, z38, z2i, z2q, z2y, z36, z40, z41, z3y, z45, z42, z43, z3b, z3c, z47, z1w, z3d, z46, yy0, yy1, yy2, yy3, yy4, yy5, z00, z02, z01, z03, z1v, z1u, z1z, z22, z20, z21, z2a, z28, z29, z27, z26, z2b, theGlobs, yy8, yy9, yy6, ne_eq, yy7, Nat.reduceAdd, Nat.reduceLT, if_true, W.f]) (fun Q => by simp only [z14, z1q, z1r, z1d, z0p, z1a, z15, z1b, z0a, z09, z1f, z1e, z0o, z0u, z0v, z0s, z0r, z0q, z16, z0l, z17, z18, z1o, z1p, z0t, z0g, z0f, z0d, z0c, z0b, z0e, z0z, z0y, z0x, z0w, z10, z19, z1s, z0h, z0j, z0i, z0k, z1c, z1i, z1j, z1l, z1k, z1m, z1g, z0m, z0n, z07, z06, z05, z04, z08, z11, z1n, z12, z13, z1h, z1t, z3u, z3x, z1x, z1y, z3h, z3i, z3r, z3s, z3j, z3k, z3m, z3o, z3q, z3t, z3n, z2p, z2s, z37, z2k, z24, z25, z30, z2t, z31, z2e, z2d, z3g, z3f, z2m, z2n, z2u, z2j, z2x, z35, z2l, z3a, z38, z2i, z2q, z2y, z36, z40, z41, z3y, z45, z42, z43, z3b, z3c, z47, z1w, z3d, z46, yy0, yy1, yy2, yy3, yy4, yy5, z00, z02, z01, z03, z1v, z1u, z1z, z22, z20, z21, z2a, z28, z29, z27, z26, z2b, theGlobs, yy8, yy9, yy6, ne_eq, yy7, Nat.reduceAdd, Nat.reduceLT, if_true, a10, a16, i1]) (fun _ => by simp only [z21, borN]) ?_
  have c1 : (if decide (0 < df) = true then ((0 ||| colMask F R (F - 1) : Nat) : Int) else ((0 : Nat) : Int)) = ((if 0 < df then 0 ||| colMask F R (F - 1) else 0 : Nat) : Int) := by
    by_cases h : 0 < df <;> simp [h]
  rw [c1]
  simp only [yy3, yy2, z1x]
  generalize he1 : (if 0 < df then 0 ||| colMask F R (F - 1) else 0 : Nat) = e1
  rw [z3u]
  refine wp_ifaug (b := decide (df < 0)) (a := (e1 : Nat)) (d := (colMask F R 0 : Nat)) (r := (e1 ||| colMask F R 0 : Nat)) rfl (fun Q => by simp only [z14, z1q, z1r, z1d, z0p, z1a, z15, z1b, z0a, z09, z1f, z1e, z0o, z0u, z0v, z0s, z0r, z0q, z16, z0l, z17, z18, z1o, z1p, z0t, z0g, z0f, z0d, z0c, z0b, z0e, z0z, z0y, z0x, z0w, z10, z19, z1s, z0h, z0j, z0i, z0k, z1c, z1i, z1j, z1l, z1k, z1m, z1g, z0m, z0n, z07, z06, z05, z04, z08, z11, z1n, z12, z13, z1h, z1t, z3u, z3x, z1x, z1y, z3h, z3i, z3r, z3s, z3j, z3k, z3m, z3o, z3q, z3t, z3n, z2p, z2s, z37, z2k, z24, z25, z30, z2t, z31, z2e, z2d, z3g, z3f, z2m, z2n, z2u, z2j, z2x, z35, z2l, z3a, z38, z2i, z2q, z2y, z36, z40, z41, z3y, z45, z42, z43, z3b, z3c, z47, z1w, z3d, z46, yy0, yy1, yy2, yy3, yy4, yy5, z00, z02, z01, z03, z1v, z1u, z1z, z22, z20, z21, z2a, z28, z29, z27, z26, z2b, theGlobs, yy8, yy9, yy6, ne_eq, yy7, Nat.reduceAdd, Nat.reduceLT, if_true, W.f]) (fun Q => by simp only [z14, z1q, z1r, z1d, z0p, z1a, z15, z1b, z0a, z09, z1f, z1e, z0o, z0u, z0v, z0s, z0r, z0q, z16, z0l, z17, z18, z1o, z1p, z0t, z0g, z0f, z0d, z0c, z0b, z0e, z0z, z0y, z0x, z0w, z10, z19, z1s, z0h, z0j, z0i, z0k, z1c, z1i, z1j, z1l, z1k, z1m, z1g, z0m, z0n, z07, z06, z05, z04, z08, z11, z1n, z12, z13, z1h, z1t, z3u, z3x, z1x, z1y, z3h, z3i, z3r, z3s, z3j, z3k, z3m, z3o, z3q, z3t, z3n, z2p, z2s, z37, z2k, z24, z25, z30, z2t, z31, z2e, z2d, z3g, z3f, z2m, z2n, z2u, z2j, z2x, z35, z2l, z3a, z38, z2i, z2q, z2y, z36, z40, z41, z3y, z45, z42, z43, z3b, z3c, z47, z1w, z3d, z46, yy0, yy1, yy2, yy3, yy4, yy5, z00, z02, z01, z03, z1v, z1u, z1z, z22, z20, z21, z2a, z28, z29, z27, z26, z2b, theGlobs, yy8, yy9, yy6, ne_eq, yy7, Nat.reduceAdd, Nat.reduceLT, if_true, a10, a16, i2]) (fun _ => by simp only [z21, borN]) ?_
  have c2 : (if decide (df < 0) = true then ((e1 ||| colMask F R 0 : Nat) : Int) else (e1 : Int)) = ((if df < 0 then e1 ||| colMask F R 0 else e1 : Nat) : Int) := by
    by_cases h : df < 0 <;> simp [h]
  rw [c2]
  simp only [yy3, yy2, z1x]
  generalize he2 : (if df < 0 then e1 ||| colMask F R 0 else e1 : Nat) = e2
  rw [z3u]
  refine wp_ifaug (b := decide (0 < dr)) (a := (e2 : Nat)) (d := (rankMask F (R - 1) : Nat)) (r := (e2 ||| rankMask F (R - 1) : Nat)) rfl (fun Q => by simp only [z14, z1q, z1r, z1d, z0p, z1a, z15, z1b, z0a, z09, z1f, z1e, z0o, z0u, z0v, z0s, z0r, z0q, z16, z0l, z17, z18, z1o, z1p, z0t, z0g, z0f, z0d, z0c, z0b, z0e, z0z, z0y, z0x, z0w, z10, z19, z1s, z0h, z0j, z0i, z0k, z1c, z1i, z1j, z1l, z1k, z1m, z1g, z0m, z0n, z07, z06, z05, z04, z08, z11, z1n, z12, z13, z1h, z1t, z3u, z3x, z1x, z1y, z3h, z3i, z3r, z3s, z3j, z3k, z3m, z3o, z3q, z3t, z3n, z2p, z2s, z37, z2k, z24, z25, z30, z2t, z31, z2e, z2d, z3g, z3f, z2m, z2n, z2u, z2j, z2x, z35, z2l, z3a, z38, z2i, z2q, z2y, z36, z40, z41, z3y, z45, z42, z43, z3b, z3c, z47, z1w, z3d, z46, yy0, yy1, yy2, yy3, yy4, yy5, z00, z02, z01, z03, z1v, z1u, z1z, z22, z20, z21, z2a, z28, z29, z27, z26, z2b, theGlobs, yy8, yy9, yy6, ne_eq, yy7, Nat.reduceAdd, Nat.reduceLT, if_true, W.r]) (fun Q => by simp only [z14, z1q, z1r, z1d, z0p, z1a, z15, z1b, z0a, z09, z1f, z1e, z0o, z0u, z0v, z0s, z0r, z0q, z16, z0l, z17, z18, z1o, z1p, z0t, z0g, z0f, z0d, z0c, z0b, z0e, z0z, z0y, z0x, z0w, z10, z19, z1s, z0h, z0j, z0i, z0k, z1c, z1i, z1j, z1l, z1k, z1m, z1g, z0m, z0n, z07, z06, z05, z04, z08, z11, z1n, z12, z13, z1h, z1t, z3u, z3x, z1x, z1y, z3h, z3i, z3r, z3s, z3j, z3k, z3m, z3o, z3q, z3t, z3n, z2p, z2s, z37, z2k, z24, z25, z30, z2t, z31, z2e, z2d, z3g, z3f, z2m, z2n, z2u, z2j, z2x, z35, z2l, z3a, z38, z2i, z2q, z2y, z36, z40, z41, z3y, z45, z42, z43, z3b, z3c, z47, z1w, z3d, z46, yy0, yy1, yy2, yy3, yy4, yy5, z00, z02, z01, z03, z1v, z1u, z1z, z22, z20, z21, z2a, z28, z29, z27, z26, z2b, theGlobs, yy8, yy9, yy6, ne_eq, yy7, Nat.reduceAdd, Nat.reduceLT, if_true, a11, a17, i3]) (fun _ => by simp only [z21, borN]) ?_
  have c3 : (if decide (0 < dr) = true then ((e2 ||| rankMask F (R - 1) : Nat) : Int) else (e2 : Int)) = ((if 0 < dr then e2 ||| rankMask F (R - 1) else e2 : Nat) : Int) := by
    by_cases h : 0 < dr <;> simp [h]
  rw [c3]
  simp only [yy3, yy2, z1x]
  generalize he3 : (if 0 < dr then e2 ||| rankMask F (R - 1) else e2 : Nat) = e3
  rw [z3u]
  refine wp_ifaug (b := decide (dr < 0)) (a := (e3 : Nat)) (d := (rankMask F 0 : Nat)) (r := (e3 ||| rankMask F 0 : Nat)) rfl (fun Q => by simp only [z14, z1q, z1r, z1d, z0p, z1a, z15, z1b, z0a, z09, z1f, z1e, z0o, z0u, z0v, z0s, z0r, z0q, z16, z0l, z17, z18, z1o, z1p, z0t, z0g, z0f, z0d, z0c, z0b, z0e, z0z, z0y, z0x, z0w, z10, z19, z1s, z0h, z0j, z0i, z0k, z1c, z1i, z1j, z1l, z1k, z1m, z1g, z0m, z0n, z07, z06, z05, z04, z08, z11, z1n, z12, z13, z1h, z1t, z3u, z3x, z1x, z1y, z3h, z3i, z3r, z3s, z3j, z3k, z3m, z3o, z3q, z3t, z3n, z2p, z2s, z37, z2k, z24, z25, z30, z2t, z31, z2e, z2d, z3g, z3f, z2m, z2n, z2u, z2j, z2x, z35, z2l, z3a, z38, z2i, z2q, z2y, z36, z40, z41, z3y, z45, z42, z43, z3b, z3c, z47, z1w, z3d, z46, yy0, yy1, yy2, yy3, yy4, yy5, z00, z02, z01, z03, z1v, z1u, z1z, z22, z20, z21, z2a, z28, z29, z27, z26, z2b, theGlobs, yy8, yy9, yy6, ne_eq, yy7, Nat.reduceAdd, Nat.reduceLT, if_true, W.r]) (fun Q => by simp only [z14, z1q, z1r, z1d, z0p, z1a, z15, z1b, z0a, z09, z1f, z1e, z0o, z0u, z0v, z0s, z0r, z0q, z16, z0l, z17, z18, z1o, z1p, z0t, z0g, z0f, z0d, z0c, z0b, z0e, z0z, z0y, z0x, z0w, z10, z19, z1s, z0h, z0j, z0i, z0k, z1c, z1i, z1j, z1l, z1k, z1m, z1g, z0m, z0n, z07, z06, z05, z04, z08, z11, z1n, z12, z13, z1h, z1t, z3u, z3x, z1x, z1y, z3h, z3i, z3r, z3s, z3j, z3k, z3m, z3o, z3q, z3t, z3n, z2p, z2s, z37, z2k, z24, z25, z30, z2t, z31, z2e, z2d, z3g, z3f, z2m, z2n, z2u, z2j, z2x, z35, z2l, z3a, z38, z2i, z2q, z2y, z36, z40, z41, z3y, z45, z42, z43, z3b, z3c, z47, z1w, z3d, z46, yy0, yy1, yy2, yy3, yy4, yy5, z00, z02, z01, z03, z1v, z1u, z1z, z22, z20, z21, z2a, z28, z29, z27, z26, z2b, theGlobs, yy8, yy9, yy6, ne_eq, yy7, Nat.reduceAdd, Nat.reduceLT, if_true, a11, a17, i4]) (fun _ => by simp only [z21, borN]) ?_
  have c4 : (if decide (dr < 0) = true then ((e3 ||| rankMask F 0 : Nat) : Int) else (e3 : Int)) = ((if dr < 0 then e3 ||| rankMask F 0 else e3 : Nat) : Int) := by
    by_cases h : dr < 0 <;> simp [h]
  rw [c4]
  simp only [yy3, yy2, z1x]
  have e5 : (if dr < 0 then e3 ||| rankMask F 0 else e3 : Nat) = edgeN F R df dr := by subst he3 he2 he1; rfl
  rw [e5]
  simp only [z14, z1q, z1r, z1d, z0p, z1a, z15, z1b, z0a, z09, z1f, z1e, z0o, z0u, z0v, z0s, z0r, z0q, z16, z0l, z17, z18, z1o, z1p, z0t, z0g, z0f, z0d, z0c, z0b, z0e, z0z, z0y, z0x, z0w, z10, z19, z1s, z0h, z0j, z0i, z0k, z1c, z1i, z1j, z1l, z1k, z1m, z1g, z0m, z0n, z07, z06, z05, z04, z08, z11, z1n, z12, z13, z1h, z1t, z3u, z3x, z1x, z1y, z3h, z3i, z3r, z3s, z3j, z3k, z3m, z3o, z3q, z3t, z3n, z2p, z2s, z37, z2k, z24, z25, z30, z2t, z31, z2e, z2d, z3g, z3f, z2m, z2n, z2u, z2j, z2x, z35, z2l, z3a, z38, z2i, z2q, z2y, z36, z40, z41, z3y, z45, z42, z43, z3b, z3c, z47, z1w, z3d, z46, yy0, yy1, yy2, yy3, yy4, yy5, z00, z02, z01, z03, z1v, z1u, z1z, z22, z20, z21, z2a, z28, z29, z27, z26, z2b, theGlobs, yy8, yy9, yy6, ne_eq, yy7, Nat.reduceAdd, Nat.reduceLT, if_true, a13, bandnN]
  rfl
theorem ev_growing (W : Way d df dr) : run (n+1) 19 [.int d] X = some (.bool (decide (0 < dr) || decide ((d : Int) = 1)), X) := by
  refine wpO_eq (wp_run (d := d_is_growing) rfl rfl ?_)
  show wpSs n d_is_growing.body [some (.int d)] X _
  unfold d_is_growing
  rw [z3u, z3q]
  rw [z33 (x := decide (0 < dr)) (y := decide ((d : Int) = 1)) (fun Q => by simp only [z14, z1q, z1r, z1d, z0p, z1a, z15, z1b, z0a, z09, z1f, z1e, z0o, z0u, z0v, z0s, z0r, z0q, z16, z0l, z17, z18, z1o, z1p, z0t, z0g, z0f, z0d, z0c, z0b, z0e, z0z, z0y, z0x, z0w, z10, z19, z1s, z0h, z0j, z0i, z0k, z1c, z1i, z1j, z1l, z1k, z1m, z1g, z0m, z0n, z07, z06, z05, z04, z08, z11, z1n, z12, z13, z1h, z1t, z3u, z3x, z1x, z1y, z3h, z3i, z3r, z3s, z3j, z3k, z3m, z3o, z3q, z3t, z3n, z2p, z2s, z37, z2k, z24, z25, z30, z2t, z31, z2e, z2d, z3g, z3f, z2m, z2n, z2u, z2j, z2x, z35, z2l, z3a, z38, z2i, z2q, z2y, z36, z40, z41, z3y, z45, z42, z43, z3b, z3c, z47, z1w, z3d, z46, yy0, yy1, yy2, yy3, yy4, yy5, z00, z02, z01, z03, z1v, z1u, z1z, z22, z20, z21, z2a, z28, z29, z27, z26, z2b, theGlobs, yy8, yy9, yy6, ne_eq, yy7, Nat.reduceAdd, Nat.reduceLT, if_true, W.r]) (fun Q => by simp only [z14, z1q, z1r, z1d, z0p, z1a, z15, z1b, z0a, z09, z1f, z1e, z0o, z0u, z0v, z0s, z0r, z0q, z16, z0l, z17, z18, z1o, z1p, z0t, z0g, z0f, z0d, z0c, z0b, z0e, z0z, z0y, z0x, z0w, z10, z19, z1s, z0h, z0j, z0i, z0k, z1c, z1i, z1j, z1l, z1k, z1m, z1g, z0m, z0n, z07, z06, z05, z04, z08, z11, z1n, z12, z13, z1h, z1t, z3u, z3x, z1x, z1y, z3h, z3i, z3r, z3s, z3j, z3k, z3m, z3o, z3q, z3t, z3n, z2p, z2s, z37, z2k, z24, z25, z30, z2t, z31, z2e, z2d, z3g, z3f, z2m, z2n, z2u, z2j, z2x, z35, z2l, z3a, z38, z2i, z2q, z2y, z36, z40, z41, z3y, z45, z42, z43, z3b, z3c, z47, z1w, z3d, z46, yy0, yy1, yy2, yy3, yy4, yy5, z00, z02, z01, z03, z1v, z1u, z1z, z22, z20, z21, z2a, z28, z29, z27, z26, z2b, theGlobs, yy8, yy9, yy6, ne_eq, yy7, Nat.reduceAdd, Nat.reduceLT, if_true])]
  exact ⟨rfl, rfl⟩
end
end Mine
end

section
set_option linter.unusedSimpArgs false
set_option maxRecDepth 100000
namespace Mine
open PySem.Builtin

theorem shr_bit (x s : Nat) : decide (¬ ((((x >>> s) % 2 : Nat) : Int) = 0)) = x.testBit s := by
  rw [Nat.testBit_eq_decide_div_mod_eq, Nat.shiftRight_eq_div_pow]
  have := Nat.mod_two_eq_zero_or_one (x / 2 ^ s)
  rcases this with h | h <;> rw [h] <;> rfl
section
variable {n F R d k19 k23 kn p0 p1 cs rl : Nat} {rays : List Nat} {H : AH} {df dr : Int}
noncomputable abbrev rayBody : Sts := .cons (.ite (.bin .band (.bin .shr (.var 2) (.var 6)) (.const (.int 1))) (.cons (.assign 7 (.bin .add (.var 6) (.var 3)))
 (.cons (.setItem (.var 4) (.var 6) (.bin .bor (.item (.var 4) (.var 7)) (.bin .shl (.const (.int 1)) (.var 7))))
 (.cons (.augItem (.attr (.var 0) 19) (.var 6) .bor (.bin .shl (.const (.int 1)) (.var 7)))
 .nil))) .nil)
 .nil
structure RS (H X : AH) (F R k19 k23 : Nat) (rays : List Nat) (kn p0 p1 cs rl : Nat) : Prop where
  g : GS H X F R k19 k23 rays kn p0 p1 cs
  k : King H X (F * R) k19
  r : ∃ ry : List Nat, X[rl]? = some (.list (pints ry)) ∧ ry.length = F * R
theorem ray_loop (S : Shape F R) (W : Way d df dr) (h1 : H.length + 11 ≤ rl) (h2 : rl ∉ rays) (h3 : rl ≠ H.length + k19) (h4 : H.length + k19 ∉ rays) {Q : Flw → Vars → AH → Prop} {ov : PV} {vs0 : List PV} (hs : ∀ X : AH, stays ov vs0 X = true) {v1 : Option PV} :
    ∀ (r : List Nat) (X : AH) (v6 v7 : Option PV), (∀ s ∈ r, s < F * R) → RS H X F R k19 k23 rays kn p0 p1 cs rl →
    (∀ X' v6 v7, RS H X' F R k19 k23 rays kn p0 p1 cs rl → Q .next [some (.loc H.length), v1, some (.int (innerN F R df dr : Nat)), some (.int (dr * F + df)), some (.loc rl), some ov, v6, v7] X') →
    wpF n ov vs0 [6] rayBody (pints r) [some (.loc H.length), v1, some (.int (innerN F R df dr : Nat)), some (.int (dr * F + df)), some (.loc rl), some ov, v6, v7] X Q
  | [], X, v6, v7, hr, g, q => by
    rw [pints, List.map_nil]; refine wpF_nil ?_
    exact ⟨hs X, q _ _ _ g⟩
  | s :: r, X, v6, v7, hr, g, q => by
    have nx := fun X v6 v7 g => ray_loop S W h1 h2 h3 h4 (Q := Q) hs (v1 := v1) r X v6 v7 (fun s hs => hr s (List.mem_cons_of_mem _ hs)) g q
    have hsN := hr s List.mem_cons_self
    have hsz := S.sz
    rw [show pints (s :: r) = .int (s : Nat) :: pints r from rfl]; refine wpF_cons ?_
    refine ⟨hs X, ?_⟩
    obtain ⟨g0, ⟨hk, kg, gk1, gk2⟩, ry, gr1, gr2⟩ := g
    simp only [bindT_one, bindT_tup, setAll_cons, setAll_nil, og_t, decide_true, z14, z1q, z1r, z1d, z0p, z1a, z15, z1b, z0a, z09, z1f, z1e, z0o, z0u, z0v, z0s, z0r, z0q, z16, z0l, z17, z18, z1o, z1p, z0t, z0g, z0f, z0d, z0c, z0b, z0e, z0z, z0y, z0x, z0w, z10, z19, z1s, z0h, z0j, z0i, z0k, z1c, z1i, z1j, z1l, z1k, z1m, z1g, z0m, z0n, z07, z06, z05, z04, z08, z11, z1n, z12, z13, z1h, z1t, z3u, z3x, z1x, z1y, z3h, z3i, z3r, z3s, z3j, z3k, z3m, z3o, z3q, z3t, z3n, z2p, z2s, z37, z2k, z24, z25, z30, z2t, z31, z2e, z2d, z3g, z3f, z2m, z2n, z2u, z2j, z2x, z35, z2l, z3a, z38, z2i, z2q, z2y, z36, z40, z41, z3y, z45, z42, z43, z3b, z3c, z47, z1w, z3d, z46, yy0, yy1, yy2, yy3, yy4, yy5, z00, z02, z01, z03, z1v, z1u, z1z, z22, z20, z21, z2a, z28, z29, z27, z26, z2b, theGlobs, yy8, yy9, yy6, ne_eq, yy7, Nat.reduceAdd, Nat.reduceLT, if_true, rayBody, wb_shrN, band1, shr_bit]
    by_cases h : (innerN F R df dr).testBit s = true
    · rw [if_pos h]
      obtain ⟨_, b1, b2⟩ := inner_goal S W.df1 W.dr1 h
      obtain ⟨gl, e⟩ := Int.eq_ofNat_of_zero_le b1
      rw [e] at b2
      have hgl : gl < F * R := by lia
      have i1 : vGetItem X (.loc rl) (.int gl) = some (.int (ry[gl]'(by lia) : Nat)) := item_of gr1 (pints_get (by lia)) (by lia)
      have i2 : ∀ x : Nat, vSetItem X (.loc rl) (.int s) (.int x) = some (X.set rl (.list (pints (ry.set s x)))) := fun x => by
        rw [setItem_of gr1 (by rw [pints_len]; lia) (by lia), pints_set]
      have gX := fun o => g0.setO (o := o) h1 h2
      have kX : ∀ o, (X.set rl o)[H.length + k19]? = some (.list (pints kg)) := fun o => set_ne gk1 h3
      have a19 : ∀ o, vGetAttr (X.set rl o) (.loc H.length) 19 = some (.loc (H.length + k19)) := fun o => (gX o).at.2.2.2.2.2.2.2.2.1
      have i3 : ∀ o, vGetItem (X.set rl o) (.loc (H.length + k19)) (.int s) = some (.int (kg[s]'(by lia) : Nat)) := fun o => item_of (kX o) (pints_get (by lia)) (by lia)
      have i4 : ∀ (o : AObj) (x : Nat), vSetItem (X.set rl o) (.loc (H.length + k19)) (.int s) (.int x) = some ((X.set rl o).set (H.length + k19) (.list (pints (kg.set s x)))) := fun o x => by
        rw [setItem_of (kX o) (by rw [pints_len]; lia) (by lia), pints_set]
      simp only [z14, z1q, z1r, z1d, z0p, z1a, z15, z1b, z0a, z09, z1f, z1e, z0o, z0u, z0v, z0s, z0r, z0q, z16, z0l, z17, z18, z1o, z1p, z0t, z0g, z0f, z0d, z0c, z0b, z0e, z0z, z0y, z0x, z0w, z10, z19, z1s, z0h, z0j, z0i, z0k, z1c, z1i, z1j, z1l, z1k, z1m, z1g, z0m, z0n, z07, z06, z05, z04, z08, z11, z1n, z12, z13, z1h, z1t, z3u, z3x, z1x, z1y, z3h, z3i, z3r, z3s, z3j, z3k, z3m, z3o, z3q, z3t, z3n, z2p, z2s, z37, z2k, z24, z25, z30, z2t, z31, z2e, z2d, z3g, z3f, z2m, z2n, z2u, z2j, z2x, z35, z2l, z3a, z38, z2i, z2q, z2y, z36, z40, z41, z3y, z45, z42, z43, z3b, z3c, z47, z1w, z3d, z46, yy0, yy1, yy2, yy3, yy4, yy5, z00, z02, z01, z03, z1v, z1u, z1z, z22, z20, z21, z2a, z28, z29, z27, z26, z2b, theGlobs, yy8, yy9, yy6, ne_eq, yy7, Nat.reduceAdd, Nat.reduceLT, if_true, e, i1, wb_one_shl (show gl ≤ 1000000 by lia), borN, i2, a19, i3, i4]
      refine nx _ _ _ ⟨(gX _).setO (by lia) h4, ⟨hk, _, set_eq (kX _), by rw [List.length_set]; exact gk2⟩, _, set_ne (set_eq gr1) (Ne.symm h3), by rw [List.length_set]; exact gr2⟩
    · rw [if_neg h]
      exact nx _ _ _ ⟨g0, ⟨hk, kg, gk1, gk2⟩, ry, gr1, gr2⟩
theorem rngDown : ∀ (m : Nat), ∃ r : List Nat, rngList ((m : Int) - 1) (-1) m = pints r ∧ (∀ s ∈ r, s < m)
  | 0 => ⟨[], rfl, fun s h => by cases h⟩
  | m + 1 => by
    obtain ⟨r, h1, h2⟩ := rngDown m
    refine ⟨m :: r, ?_, fun s hs => ?_⟩
    · rw [rngList, show ((m + 1 : Nat) : Int) - 1 = (m : Int) by lia, show (m : Int) + -1 = (m : Int) - 1 by lia, h1]; rfl
    · rcases List.mem_cons.mp hs with rfl | h
      · lia
      · have := h2 s h; lia
theorem rngUp : ∀ (m k : Nat), ∃ r : List Nat, rngList (k : Int) 1 m = pints r ∧ (∀ s ∈ r, s < k + m)
  | 0, _ => ⟨[], rfl, fun s h => by cases h⟩
  | m + 1, k => by
    obtain ⟨r, h1, h2⟩ := rngUp m (k + 1)
    refine ⟨k :: r, ?_, fun s hs => ?_⟩
    · rw [rng_cons, h1]; rfl
    · rcases List.mem_cons.mp hs with rfl | h
      · lia
      · have := h2 s h; lia
theorem cb_range1 {N : Nat} {X : AH} (h : N ≤ 64) : callB (run n) inits .range1 [.int N] X = some (.rng 0 N 1, X) := by
  exact cb_r1 (by simp [okRng]; lia)
theorem src_range1 {N : Nat} {X : AH} (h : N ≤ 64) : source X (.rng 0 N 1) = some (rngList 0 1 N) := by
  have : okRng 0 N 1 = true := by simp [okRng]; lia
  simp only [source, this, if_true, rngSize]; congr 2
theorem cb_range3 {N : Nat} {X : AH} (h : N ≤ 64) : callB (run n) inits .range3 [.int ((N : Int) - 1), .int (-1), .int (-1)] X = some (.rng ((N : Int) - 1) (-1) (-1), X) := by
  exact cb_r3 (by simp [okRng]; lia)
theorem src_range3 {N : Nat} {X : AH} (h : N ≤ 64) : source X (.rng ((N : Int) - 1) (-1) (-1)) = some (rngList ((N : Int) - 1) (-1) N) := by
  have : okRng ((N : Int) - 1) (-1) (-1) = true := by simp [okRng]; lia
  simp only [source, this, if_true, rngSize, if_neg (show ¬ ((-1 : Int) = 1) by decide)]; congr 2; lia
noncomputable abbrev raysBody : Sts := .cons (.assign 2 (.call (.user 21) (.cons (.var 0) (.cons (.var 1) .nil))))
 (.cons (.assign 3 (.bin .add (.bin .mul (.item (.glob 5) (.var 1)) (.attr (.var 0) 10)) (.item (.glob 4) (.var 1))))
 (.cons (.assign 4 (.bin .mul (.list (.cons (.const (.int 0)) .nil)) (.attr (.var 0) 12)))
 (.cons (.assign 5 (.call .range1 (.cons (.attr (.var 0) 12) .nil)))
 (.cons (.ite (.call (.user 19) (.cons (.var 1) .nil)) (.cons (.assign 5 (.call .range3 (.cons (.bin .sub (.attr (.var 0) 12) (.const (.int 1))) (.cons (.neg (.const (.int 1))) (.cons (.neg (.const (.int 1))) .nil))))) .nil) .nil)
 (.cons (.for [6] (.var 5) rayBody)
 (.cons (.expr (.append (.attr (.var 0) 18) (.var 4)))
 .nil))))))
structure RSs (H X : AH) (F R k19 k23 : Nat) (rays : List Nat) (kn p0 p1 cs : Nat) : Prop where
  g : GS H X F R k19 k23 rays kn p0 p1 cs
  k : King H X (F * R) k19
  nk : H.length + k19 ∉ rays
theorem rays_loop (S : Shape F R) {Q : Flw → Vars → AH → Prop} {x y z : Int} {vs0 : List PV} : ∀ (m d : Nat) (X : AH) (rays : List Nat) (v1 v2 v3 v4 v5 v6 v7 : Option PV), d + m = 8 → rays.length = d → RSs H X F R k19 k23 rays kn p0 p1 cs →
    (∀ X' rays' v1 v2 v3 v4 v5 v6 v7, rays'.length = 8 → RSs H X' F R k19 k23 rays' kn p0 p1 cs → Q .next [some (.loc H.length), v1, v2, v3, v4, v5, v6, v7] X') →
    wpF (n+1) (.rng x y z) vs0 [1] raysBody (rngList (d : Int) 1 m) [some (.loc H.length), v1, v2, v3, v4, v5, v6, v7] X Q
  | 0, d, X, rays, v1, v2, v3, v4, v5, v6, v7, hd, hl, g, q => by
    rw [rngList]; refine wpF_nil ?_
    exact ⟨rfl, q _ _ _ _ _ _ _ _ _ (by lia) g⟩
  | m + 1, d, X, rays, v1, v2, v3, v4, v5, v6, v7, hd, hl, g, q => by
    have nx := fun X rays v1 v2 v3 v4 v5 v6 v7 h g => rays_loop S (Q := Q) (x := x) (y := y) (z := z) (vs0 := vs0) m (d + 1) X rays v1 v2 v3 v4 v5 v6 v7 (by lia) h g q
    obtain ⟨df, dr, W⟩ := way (show d < 8 by lia)
    have hsz := S.sz
    have hF := S.f8
    obtain ⟨g0, gk, gn⟩ := g
    obtain ⟨a10, a11, a12, a13, a15, a16, a17, a18, a19, a20, a21, a22, a23⟩ := g0.at
    have m1 : ∀ y, (small y || small (F : Int)) = true := fun y => by rw [smallF (by lia)]; simp
    have g1 := g0.push (E := [.list [.int 0], .list (List.replicate (F * R) (.int 0))])
    have k1 := gk.push (E := [.list [.int 0], .list (List.replicate (F * R) (.int 0))])
    obtain ⟨b10, b11, b12, b13, b15, b16, b17, b18, b19, b20, b21, b22, b23⟩ := g1.at
    have g2 := g0.push (E := [.list [.int 0]])
    have c12 := g2.at.2.2.1
    have hrep : (List.replicate (F * R) (PV.int 0)) = pints (List.replicate (F * R) 0) := by simp [pints]
    have hX1 : (X ++ [AObj.list [.int 0], .list (List.replicate (F * R) (.int 0))])[X.length + 1]? = some (.list (pints (List.replicate (F * R) 0))) := by rw [hrep]; simp
    have hlX := g0.ln
    have hnr : X.length + 1 ∉ rays := fun hm => by
      obtain ⟨_, r, h1, _⟩ := g0.rk _ hm
      have := get_lt h1; lia
    have hnk : X.length + 1 ≠ H.length + k19 := fun e => by
      obtain ⟨_, r, h1, _⟩ := gk
      have := get_lt h1; lia
    rw [rng_cons]; refine wpF_cons ?_
    refine ⟨rfl, ?_⟩
    have ord : ∀ (ov : PV) (r : List Nat) (K : Flw → Vars → AH → Prop) (v6 v7 : Option PV), (∀ X : AH, source X ov = some (pints r)) → (∀ (vs0 : List PV) (X : AH), stays ov vs0 X = true) → r.length ≤ 1000 → (∀ s ∈ r, s < F * R) →
        (∀ X' rays' v1 v2 v3 v4 v5 v6 v7, rays'.length = d + 1 → RSs H X' F R k19 k23 rays' kn p0 p1 cs → K .next [some (.loc H.length), v1, v2, v3, v4, v5, v6, v7] X') →
        wpSs (n+1) (.cons (.for [6] (.var 5) rayBody) (.cons (.expr (.append (.attr (.var 0) 18) (.var 4))) .nil))
          [some (.loc H.length), some (.int d), some (.int (innerN F R df dr : Nat)), some (.int (dr * F + df)), some (.loc (X.length + 1)), some ov, v6, v7] (X ++ [.list [.int 0], .list (List.replicate (F * R) (.int 0))]) K := by
      intro ov r K v6 v7 hsrc hst hlen hr hK
      rw [z3u]
      simp only [z14, z1q, z1r, z1d, z0p, z1a, z15, z1b, z0a, z09, z1f, z1e, z0o, z0u, z0v, z0s, z0r, z0q, z16, z0l, z17, z18, z1o, z1p, z0t, z0g, z0f, z0d, z0c, z0b, z0e, z0z, z0y, z0x, z0w, z10, z19, z1s, z0h, z0j, z0i, z0k, z1c, z1i, z1j, z1l, z1k, z1m, z1g, z0m, z0n, z07, z06, z05, z04, z08, z11, z1n, z12, z13, z1h, z1t, z3n, z37, yy5, yy4, z46, hsrc, z47, pints_len]
      refine ⟨hlen, ?_⟩
      refine ray_loop (rl := X.length + 1) S W (by lia) hnr hnk gn (hst _) r _ v6 v7 hr ⟨g1, k1, _, hX1, by simp⟩ fun X' v6 v7 g' => ?_
      obtain ⟨g3, k3, ry, r3, r4⟩ := g'
      have e18 := g3.at.2.2.2.2.2.2.2.1
      have hlen2 : (rays.map PV.loc).length ≤ 1000 := by rw [List.length_map]; lia
      simp only [z14, z1q, z1r, z1d, z0p, z1a, z15, z1b, z0a, z09, z1f, z1e, z0o, z0u, z0v, z0s, z0r, z0q, z16, z0l, z17, z18, z1o, z1p, z0t, z0g, z0f, z0d, z0c, z0b, z0e, z0z, z0y, z0x, z0w, z10, z19, z1s, z0h, z0j, z0i, z0k, z1c, z1i, z1j, z1l, z1k, z1m, z1g, z0m, z0n, z07, z06, z05, z04, z08, z11, z1n, z12, z13, z1h, z1t, z3u, z3x, z1x, z1y, z3h, z3i, z3r, z3s, z3j, z3k, z3m, z3o, z3q, z3t, z3n, z2p, z2s, z37, z2k, z24, z25, z30, z2t, z31, z2e, z2d, z3g, z3f, z2m, z2n, z2u, z2j, z2x, z35, z2l, z3a, z38, z2i, z2q, z2y, z36, z40, z41, z3y, z45, z42, z43, z3b, z3c, z47, z1w, z3d, z46, yy0, yy1, yy2, yy3, yy4, yy5, z00, z02, z01, z03, z1v, z1u, z1z, z22, z20, z21, z2a, z28, z29, z27, z26, z2b, theGlobs, yy8, yy9, yy6, ne_eq, yy7, Nat.reduceAdd, Nat.reduceLT, if_true, e18, wpL_loc g3.ry, hlen2]
      have e : rays.map PV.loc ++ [PV.loc (X.length + 1)] = (rays ++ [X.length + 1]).map PV.loc := by simp
      rw [e]
      refine hK _ (rays ++ [X.length + 1]) _ _ _ _ _ _ _ (by rw [List.length_append, hl]; rfl) ⟨g3.set3 ⟨by lia, ry, r3, r4⟩, k3.setN ?_, ?_⟩
      · have := k3.1; lia
      · intro hm
        rcases List.mem_append.mp hm with h | h
        · exact gn h
        · exact hnk (List.mem_singleton.mp h).symm
    simp only [bindT_one, bindT_tup, setAll_cons, setAll_nil, og_t, decide_true, z14, z1q, z1r, z1d, z0p, z1a, z15, z1b, z0a, z09, z1f, z1e, z0o, z0u, z0v, z0s, z0r, z0q, z16, z0l, z17, z18, z1o, z1p, z0t, z0g, z0f, z0d, z0c, z0b, z0e, z0z, z0y, z0x, z0w, z10, z19, z1s, z0h, z0j, z0i, z0k, z1c, z1i, z1j, z1l, z1k, z1m, z1g, z0m, z0n, z07, z06, z05, z04, z08, z11, z1n, z12, z13, z1h, z1t, z3x, z1x, z1y, z3h, z3i, z3r, z3s, z3j, z3k, z3m, z3o, z3q, z3t, z3n, z2p, z2s, z37, z2k, z24, z25, z30, z2t, z31, z2e, z2d, z3g, z3f, z2m, z2n, z2u, z2j, z2x, z35, z2l, z3a, z38, z2i, z2q, z2y, z36, z40, z41, z3y, z45, z42, z43, z3b, z3c, z47, z1w, z3d, z46, yy0, yy1, yy2, yy3, yy4, yy5, z00, z02, z01, z03, z1v, z1u, z1z, z22, z20, z21, z2a, z28, z29, z27, z26, z2b, theGlobs, yy8, yy9, yy6, ne_eq, yy7, Nat.reduceAdd, Nat.reduceLT, if_true, raysBody]
    rw [z3u]
    simp only [z14, z1q, z1r, z1d, z0p, z1a, z15, z1b, z0a, z09, z1f, z1e, z0o, z0u, z0v, z0s, z0r, z0q, z16, z0l, z17, z18, z1o, z1p, z0t, z0g, z0f, z0d, z0c, z0b, z0e, z0z, z0y, z0x, z0w, z10, z19, z1s, z0h, z0j, z0i, z0k, z1c, z1i, z1j, z1l, z1k, z1m, z1g, z0m, z0n, z07, z06, z05, z04, z08, z11, z1n, z12, z13, z1h, z1t, z3x, z1x, z1y, z3h, z3i, z3r, z3s, z3j, z3k, z3m, z3o, z3q, z3t, z3n, z2p, z2s, z37, z2k, z24, z25, z30, z2t, z31, z2e, z2d, z3g, z3f, z2m, z2n, z2u, z2j, z2x, z35, z2l, z3a, z38, z2i, z2q, z2y, z36, z40, z41, z3y, z45, z42, z43, z3b, z3c, z47, z1w, z3d, z46, yy0, yy1, yy2, yy3, yy4, yy5, z00, z02, z01, z03, z1v, z1u, z1z, z22, z20, z21, z2a, z28, z29, z27, z26, z2b, theGlobs, yy8, yy9, yy6, ne_eq, yy7, Nat.reduceAdd, Nat.reduceLT, if_true, ev_inner S W g0]
    rw [z3u]
    simp only [z14, z1q, z1r, z1d, z0p, z1a, z15, z1b, z0a, z09, z1f, z1e, z0o, z0u, z0v, z0s, z0r, z0q, z16, z0l, z17, z18, z1o, z1p, z0t, z0g, z0f, z0d, z0c, z0b, z0e, z0z, z0y, z0x, z0w, z10, z19, z1s, z0h, z0j, z0i, z0k, z1c, z1i, z1j, z1l, z1k, z1m, z1g, z0m, z0n, z07, z06, z05, z04, z08, z11, z1n, z12, z13, z1h, z1t, z3x, z1x, z1y, z3h, z3i, z3r, z3s, z3j, z3k, z3m, z3o, z3q, z3t, z3n, z2p, z2s, z37, z2k, z24, z25, z30, z2t, z31, z2e, z2d, z3g, z3f, z2m, z2n, z2u, z2j, z2x, z35, z2l, z3a, z38, z2i, z2q, z2y, z36, z40, z41, z3y, z45, z42, z43, z3b, z3c, z47, z1w, z3d, z46, yy0, yy1, yy2, yy3, yy4, yy5, z00, z02, z01, z03, z1v, z1u, z1z, z22, z20, z21, z2a, z28, z29, z27, z26, z2b, theGlobs, yy8, yy9, yy6, ne_eq, yy7, Nat.reduceAdd, Nat.reduceLT, if_true, W.f, W.r, a10, wb_mul, m1]
    rw [z3u]
    simp only [z14, z1q, z1r, z1d, z0p, z1a, z15, z1b, z0a, z09, z1f, z1e, z0o, z0u, z0v, z0s, z0r, z0q, z16, z0l, z17, z18, z1o, z1p, z0t, z0g, z0f, z0d, z0c, z0b, z0e, z0z, z0y, z0x, z0w, z10, z19, z1s, z0h, z0j, z0i, z0k, z1c, z1i, z1j, z1l, z1k, z1m, z1g, z0m, z0n, z07, z06, z05, z04, z08, z11, z1n, z12, z13, z1h, z1t, z3x, z1x, z1y, z3h, z3i, z3r, z3s, z3j, z3k, z3m, z3o, z3q, z3t, z3n, z2p, z2s, z37, z2k, z24, z25, z30, z2t, z31, z2e, z2d, z3g, z3f, z2m, z2n, z2u, z2j, z2x, z35, z2l, z3a, z38, z2i, z2q, z2y, z36, z40, z41, z3y, z45, z42, z43, z3b, z3c, z47, z1w, z3d, z46, yy0, yy1, yy2, yy3, yy4, yy5, z00, z02, z01, z03, z1v, z1u, z1z, z22, z20, z21, z2a, z28, z29, z27, z26, z2b, theGlobs, yy8, yy9, yy6, ne_eq, yy7, Nat.reduceAdd, Nat.reduceLT, if_true, c12, wb_rep (H := X) (show F * R ≤ 1000 by lia), Nat.reduceLeDiff]
    rw [z3u]
    simp only [z14, z1q, z1r, z1d, z0p, z1a, z15, z1b, z0a, z09, z1f, z1e, z0o, z0u, z0v, z0s, z0r, z0q, z16, z0l, z17, z18, z1o, z1p, z0t, z0g, z0f, z0d, z0c, z0b, z0e, z0z, z0y, z0x, z0w, z10, z19, z1s, z0h, z0j, z0i, z0k, z1c, z1i, z1j, z1l, z1k, z1m, z1g, z0m, z0n, z07, z06, z05, z04, z08, z11, z1n, z12, z13, z1h, z1t, z3x, z1x, z1y, z3h, z3i, z3r, z3s, z3j, z3k, z3m, z3o, z3q, z3t, z3n, z2p, z2s, z37, z2k, z24, z25, z30, z2t, z31, z2e, z2d, z3g, z3f, z2m, z2n, z2u, z2j, z2x, z35, z2l, z3a, z38, z2i, z2q, z2y, z36, z40, z41, z3y, z45, z42, z43, z3b, z3c, z47, z1w, z3d, z46, yy0, yy1, yy2, yy3, yy4, yy5, z00, z02, z01, z03, z1v, z1u, z1z, z22, z20, z21, z2a, z28, z29, z27, z26, z2b, theGlobs, yy8, yy9, yy6, ne_eq, yy7, Nat.reduceAdd, Nat.reduceLT, if_true, b12, cb_range1 hsz]
    rw [z3u]
    simp only [z14, z1q, z1r, z1d, z0p, z1a, z15, z1b, z0a, z09, z1f, z1e, z0o, z0u, z0v, z0s, z0r, z0q, z16, z0l, z17, z18, z1o, z1p, z0t, z0g, z0f, z0d, z0c, z0b, z0e, z0z, z0y, z0x, z0w, z10, z19, z1s, z0h, z0j, z0i, z0k, z1c, z1i, z1j, z1l, z1k, z1m, z1g, z0m, z0n, z07, z06, z05, z04, z08, z11, z1n, z12, z13, z1h, z1t, z3x, z1x, z1y, z3h, z3i, z3r, z3s, z3j, z3k, z3m, z3o, z3q, z3t, z3n, z2p, z2s, z37, z2k, z24, z25, z30, z2t, z31, z2e, z2d, z3g, z3f, z2m, z2n, z2u, z2j, z2x, z35, z2l, z3a, z38, z2i, z2q, z2y, z36, z40, z41, z3y, z45, z42, z43, z3b, z3c, z47, z1w, z3d, z46, yy0, yy1, yy2, yy3, yy4, yy5, z00, z02, z01, z03, z1v, z1u, z1z, z22, z20, z21, z2a, z28, z29, z27, z26, z2b, theGlobs, yy8, yy9, yy6, ne_eq, yy7, Nat.reduceAdd, Nat.reduceLT, if_true, ev_growing W]
    obtain ⟨ru, ru1, ru2⟩ := rngUp (F * R) 0
    obtain ⟨rd, rd1, rd2⟩ := rngDown (F * R)
    have lu : ru.length = F * R := by rw [← pints_len, ← ru1, rngList_len]
    have ld : rd.length = F * R := by rw [← pints_len, ← rd1, rngList_len]
    by_cases hg : (decide (0 < dr) || decide ((d : Int) = 1)) = true
    · rw [if_pos hg, z3u]
      simp only [z14, z1q, z1r, z1d, z0p, z1a, z15, z1b, z0a, z09, z1f, z1e, z0o, z0u, z0v, z0s, z0r, z0q, z16, z0l, z17, z18, z1o, z1p, z0t, z0g, z0f, z0d, z0c, z0b, z0e, z0z, z0y, z0x, z0w, z10, z19, z1s, z0h, z0j, z0i, z0k, z1c, z1i, z1j, z1l, z1k, z1m, z1g, z0m, z0n, z07, z06, z05, z04, z08, z11, z1n, z12, z13, z1h, z1t, z3x, z1x, z1y, z3h, z3i, z3r, z3s, z3j, z3k, z3m, z3o, z3q, z3t, z3n, z2p, z2s, z37, z2k, z24, z25, z30, z2t, z31, z2e, z2d, z3g, z3f, z2m, z2n, z2u, z2j, z2x, z35, z2l, z3a, z38, z2i, z2q, z2y, z36, z40, z41, z3y, z45, z42, z43, z3b, z3c, z47, z1w, z3d, z46, yy0, yy1, yy2, yy3, yy4, yy5, z00, z02, z01, z03, z1v, z1u, z1z, z22, z20, z21, z2a, z28, z29, z27, z26, z2b, theGlobs, yy8, yy9, yy6, ne_eq, yy7, Nat.reduceAdd, Nat.reduceLT, if_true, b12, cb_range3 hsz]
      refine ord _ rd _ _ _ (fun X => by rw [src_range3 hsz, rd1]) (fun _ _ => rfl) (by lia) rd2 fun X' rays' v1 v2 v3 v4 v5 v6 v7 h g => ?_
      exact nx _ _ _ _ _ _ _ _ _ h g
    · rw [if_neg hg]
      refine ord _ ru _ _ _ (fun X => by rw [src_range1 hsz]; exact congrArg some ru1) (fun _ _ => rfl) (by lia) (fun s hs => by have := ru2 s hs; lia) fun X' rays' v1 v2 v3 v4 v5 v6 v7 h g => ?_
      exact nx _ _ _ _ _ _ _ _ _ h g
end
end Mine
end

section
set_option linter.unusedSimpArgs false
set_option maxRecDepth 100000
namespace Mine
open PySem.Builtin

section
variable {n F R k19 k23 kn p0 p1 cs : Nat} {rays : List Nat} {H X : AH}
theorem geo_put19 {b k x : Nat} (h : b + k = x) : putF 19 (.loc x) (geoFs F R b k19 k23) = geoFs F R b k k23 := by subst h; rfl
theorem geo_put23 {b k x : Nat} (h : b + k = x) : putF 23 (.loc x) (geoFs F R b k19 k23) = geoFs F R b k19 k := by subst h; rfl
theorem setA_of {l k c : Nat} {fs : List (Nat × PV)} {v : PV} (h : X[l]? = some (.inst c fs)) (hf : fs.length < 100) : vSetAttr X (.loc l) k v = some (X.set l (.inst c (putF k v fs))) := by
  simp only [vSetAttr, h, if_pos hf]
theorem ev_add_rays (S : Shape F R) (g : GS H X F R k19 k23 [] kn p0 p1 cs) : wpO (run (n+2) 22 [.loc H.length] X) fun v X' => v = .none ∧ ∃ k rays, rays.length = 8 ∧ RSs H X' F R k k23 rays kn p0 p1 cs := by
  refine wp_run (d := d_add_rays) rfl rfl ?_
  show wpSs (n+1) d_add_rays.body [some (.loc H.length), none, none, none, none, none, none, none] X _
  have hsz := S.sz
  have hln := g.ln
  have g2 := g.push (E := [.list [.int 0]])
  have c12 := g2.at.2.2.1
  have g1 := g.push (E := [.list [.int 0], .list (List.replicate (F * R) (.int 0))])
  have e := setA_of (k := 19) (v := .loc (X.length + 1)) g1.g0 (by simp [geoFs])
  rw [geo_put19 (k := X.length + 1 - H.length) (by lia)] at e
  have e1 : callB (run (n+1)) inits .range1 [.int 8] = fun X => some (.rng 0 8 1, X) := rfl
  have e2 : ∀ X : AH, source X (.rng 0 8 1) = some (rngList 0 1 8) := fun X => rfl
  simp only [d_add_rays, z14, z1q, z1r, z1d, z0p, z1a, z15, z1b, z0a, z09, z1f, z1e, z0o, z0u, z0v, z0s, z0r, z0q, z16, z0l, z17, z18, z1o, z1p, z0t, z0g, z0f, z0d, z0c, z0b, z0e, z0z, z0y, z0x, z0w, z10, z19, z1s, z0h, z0j, z0i, z0k, z1c, z1i, z1j, z1l, z1k, z1m, z1g, z0m, z0n, z07, z06, z05, z04, z08, z11, z1n, z12, z13, z1h, z1t, z3u, z3x, z1x, z1y, z3h, z3i, z3r, z3s, z3j, z3k, z3m, z3o, z3q, z3t, z3n, z2p, z2s, z37, z2k, z24, z25, z30, z2t, z31, z2e, z2d, z3g, z3f, z2m, z2n, z2u, z2j, z2x, z35, z2l, z3a, z38, z2i, z2q, z2y, z36, z40, z41, z3y, z45, z42, z43, z3b, z3c, z47, z1w, z3d, z46, yy0, yy1, yy2, yy3, yy4, yy5, z00, z02, z01, z03, z1v, z1u, z1z, z22, z20, z21, z2a, z28, z29, z27, z26, z2b, theGlobs, yy8, yy9, yy6, ne_eq, yy7, Nat.reduceAdd, Nat.reduceLT, if_true, c12, wb_rep (H := X) (show F * R ≤ 1000 by lia), Nat.reduceLeDiff, e, e1, e2, rngList_len]
  have hrep : (List.replicate (F * R) (PV.int 0)) = pints (List.replicate (F * R) 0) := by simp [pints]
  have hX1 : (X ++ [AObj.list [.int 0], .list (List.replicate (F * R) (.int 0))])[X.length + 1]? = some (.list (pints (List.replicate (F * R) 0))) := by rw [hrep]; simp
  have hk : King H ((X ++ [AObj.list [.int 0], .list (List.replicate (F * R) (.int 0))]).set H.length (.inst 1 (geoFs F R H.length (X.length + 1 - H.length) k23))) (F * R) (X.length + 1 - H.length) := by
    refine ⟨by lia, List.replicate (F * R) 0, ?_, by simp⟩
    rw [show H.length + (X.length + 1 - H.length) = X.length + 1 by lia]
    exact set_ne hX1 (by lia)
  refine rays_loop S 8 0 _ [] _ _ _ _ _ _ _ rfl rfl ⟨g1.set0, hk, by simp⟩ fun X' rays' v1 v2 v3 v4 v5 v6 v7 h g => ?_
  simp only [z14, z1q, z1r, z1d, z0p, z1a, z15, z1b, z0a, z09, z1f, z1e, z0o, z0u, z0v, z0s, z0r, z0q, z16, z0l, z17, z18, z1o, z1p, z0t, z0g, z0f, z0d, z0c, z0b, z0e, z0z, z0y, z0x, z0w, z10, z19, z1s, z0h, z0j, z0i, z0k, z1c, z1i, z1j, z1l, z1k, z1m, z1g, z0m, z0n, z07, z06, z05, z04, z08, z11, z1n, z12, z13, z1h, z1t, z3u, z3x, z1x, z1y, z3h, z3i, z3r, z3s, z3j, z3k, z3m, z3o, z3q, z3t, z3n, z2p, z2s, z37, z2k, z24, z25, z30, z2t, z31, z2e, z2d, z3g, z3f, z2m, z2n, z2u, z2j, z2x, z35, z2l, z3a, z38, z2i, z2q, z2y, z36, z40, z41, z3y, z45, z42, z43, z3b, z3c, z47, z1w, z3d, z46, yy0, yy1, yy2, yy3, yy4, yy5, z00, z02, z01, z03, z1v, z1u, z1z, z22, z20, z21, z2a, z28, z29, z27, z26, z2b, theGlobs, yy8, yy9, yy6, ne_eq, yy7, Nat.reduceAdd, Nat.reduceLT, if_true]
  exact ⟨_, rays', h, g⟩
theorem RSs.ray (g : RSs H X F R k19 k23 rays kn p0 p1 cs) (h8 : rays.length = 8) {i s : Nat} (hi : i < 8) (hs : s < F * R) (hN : F * R ≤ 64) : ∃ (l : Nat) (x : Nat), vGetItem X (.loc (H.length + 3)) (.int i) = some (.loc l) ∧ vGetItem X (.loc l) (.int s) = some (.int x) := by
  obtain ⟨_, r, h1, h2⟩ := g.g.rk (rays[i]'(by lia)) (List.getElem_mem _)
  refine ⟨rays[i]'(by lia), r[s]'(by lia), item_of g.g.ry ?_ (by lia), item_of h1 (pints_get (by lia)) (by lia)⟩
  rw [List.getElem?_map, List.getElem?_eq_getElem (by lia)]; rfl
noncomputable abbrev pawnBody : Sts := .cons (.expr (.append (.item (.attr (.var 0) 21) (.const (.int 0))) (.bin .band (.item (.attr (.var 0) 19) (.var 1)) (.bin .bor (.item (.item (.attr (.var 0) 18) (.const (.int 4))) (.var 1)) (.item (.item (.attr (.var 0) 18) (.const (.int 7))) (.var 1))))))
 (.cons (.expr (.append (.item (.attr (.var 0) 21) (.const (.int 1))) (.bin .band (.item (.attr (.var 0) 19) (.var 1)) (.bin .bor (.item (.item (.attr (.var 0) 18) (.const (.int 5))) (.var 1)) (.item (.item (.attr (.var 0) 18) (.const (.int 6))) (.var 1))))))
 .nil)
theorem RSs.set6 (g : RSs H X F R k19 k23 rays kn p0 p1 cs) {l : List PV} : RSs H (X.set (H.length + 6) (.list l)) F R k19 k23 rays kn l.length p1 cs :=
  ⟨g.g.set6, g.k.setN (by have := g.k.1; lia), g.nk⟩
theorem RSs.set7 (g : RSs H X F R k19 k23 rays kn p0 p1 cs) {l : List PV} : RSs H (X.set (H.length + 7) (.list l)) F R k19 k23 rays kn p0 l.length cs :=
  ⟨g.g.set7, g.k.setN (by have := g.k.1; lia), g.nk⟩
theorem RSs.set5 (g : RSs H X F R k19 k23 rays kn p0 p1 cs) {l : List PV} : RSs H (X.set (H.length + 5) (.list l)) F R k19 k23 rays l.length p0 p1 cs :=
  ⟨g.g.set5, g.k.setN (by have := g.k.1; lia), g.nk⟩
theorem RSs.set9 (g : RSs H X F R k19 k23 rays kn p0 p1 cs) {l : List PV} : RSs H (X.set (H.length + 9) (.list l)) F R k19 k23 rays kn p0 p1 l.length :=
  ⟨g.g.set9, g.k.setN (by have := g.k.1; lia), g.nk⟩
theorem pawn_loop (S : Shape F R) (h8 : rays.length = 8) {Q : Flw → Vars → AH → Prop} {x y z : Int} {vs0 : List PV} : ∀ (m k : Nat) (X : AH) (v1 : Option PV), k + m = F * R → RSs H X F R k19 k23 rays kn k k cs →
    (∀ X' v1, RSs H X' F R k19 k23 rays kn (F * R) (F * R) cs → Q .next [some (.loc H.length), v1] X') →
    wpF n (.rng x y z) vs0 [1] pawnBody (rngList (k : Int) 1 m) [some (.loc H.length), v1] X Q
  | 0, k, X, v1, hk, g, q => by
    rw [Nat.add_zero] at hk
    rw [rngList]; refine wpF_nil ?_
    rw [hk] at g
    exact ⟨rfl, q _ _ g⟩
  | m + 1, k, X, v1, hk, g, q => by
    have nx := fun X v1 g => pawn_loop S h8 (Q := Q) (x := x) (y := y) (z := z) (vs0 := vs0) m (k + 1) X v1 (by lia) g q
    have hsz := S.sz
    rw [rng_cons]; refine wpF_cons ?_
    refine ⟨rfl, ?_⟩
    obtain ⟨a10, a11, a12, a13, a15, a16, a17, a18, a19, a20, a21, a22, a23⟩ := g.g.at
    obtain ⟨_, kg, gk1, gk2⟩ := g.k
    have i0 : vGetItem X (.loc (H.length + 8)) (.int 0) = some (.loc (H.length + 6)) := item_of (k := 0) g.g.pw rfl (by decide)
    have ik : vGetItem X (.loc (H.length + k19)) (.int k) = some (.int (kg[k]'(by lia) : Nat)) := item_of gk1 (pints_get (by lia)) (by lia)
    obtain ⟨l4, x4, r4, s4⟩ := g.ray h8 (i := 4) (s := k) (by decide) (by lia) hsz
    obtain ⟨l7, x7, r7, s7⟩ := g.ray h8 (i := 7) (s := k) (by decide) (by lia) hsz
    obtain ⟨q6, q61, q62⟩ := g.g.p0
    have e6 : q6.length ≤ 1000 := by lia
    have g' := g.set6 (l := q6 ++ [.int (((kg[k]'(by lia)) &&& (x4 ||| x7) : Nat) : Int)])
    obtain ⟨b10, b11, b12, b13, b15, b16, b17, b18, b19, b20, b21, b22, b23⟩ := g'.g.at
    obtain ⟨_, kh, hk1, hk2⟩ := g'.k
    have j1 : vGetItem (X.set (H.length + 6) (.list (q6 ++ [.int (((kg[k]'(by lia)) &&& (x4 ||| x7) : Nat) : Int)]))) (.loc (H.length + 8)) (.int 1) = some (.loc (H.length + 7)) := item_of (k := 1) g'.g.pw rfl (by decide)
    have jk : vGetItem (X.set (H.length + 6) (.list (q6 ++ [.int (((kg[k]'(by lia)) &&& (x4 ||| x7) : Nat) : Int)]))) (.loc (H.length + k19)) (.int k) = some (.int (kh[k]'(by lia) : Nat)) := item_of hk1 (pints_get (by lia)) (by lia)
    obtain ⟨l5, x5, r5, s5⟩ := g'.ray h8 (i := 5) (s := k) (by decide) (by lia) hsz
    obtain ⟨l6, x6, r6, s6⟩ := g'.ray h8 (i := 6) (s := k) (by decide) (by lia) hsz
    obtain ⟨q7, q71, q72⟩ := g'.g.p1
    have e7 : q7.length ≤ 1000 := by lia
    have c4 : ((4 : Nat) : Int) = 4 := rfl
    have c5 : ((5 : Nat) : Int) = 5 := rfl
    have c6 : ((6 : Nat) : Int) = 6 := rfl
    have c7 : ((7 : Nat) : Int) = 7 := rfl
    rw [c4] at r4; rw [c7] at r7; rw [c5] at r5; rw [c6] at r6
    simp only [bindT_one, bindT_tup, setAll_cons, setAll_nil, og_t, decide_true, z14, z1q, z1r, z1d, z0p, z1a, z15, z1b, z0a, z09, z1f, z1e, z0o, z0u, z0v, z0s, z0r, z0q, z16, z0l, z17, z18, z1o, z1p, z0t, z0g, z0f, z0d, z0c, z0b, z0e, z0z, z0y, z0x, z0w, z10, z19, z1s, z0h, z0j, z0i, z0k, z1c, z1i, z1j, z1l, z1k, z1m, z1g, z0m, z0n, z07, z06, z05, z04, z08, z11, z1n, z12, z13, z1h, z1t, z3u, z3x, z1x, z1y, z3h, z3i, z3r, z3s, z3j, z3k, z3m, z3o, z3q, z3t, z3n, z2p, z2s, z37, z2k, z24, z25, z30, z2t, z31, z2e, z2d, z3g, z3f, z2m, z2n, z2u, z2j, z2x, z35, z2l, z3a, z38, z2i, z2q, z2y, z36, z40, z41, z3y, z45, z42, z43, z3b, z3c, z47, z1w, z3d, z46, yy0, yy1, yy2, yy3, yy4, yy5, z00, z02, z01, z03, z1v, z1u, z1z, z22, z20, z21, z2a, z28, z29, z27, z26, z2b, theGlobs, yy8, yy9, yy6, ne_eq, yy7, Nat.reduceAdd, Nat.reduceLT, if_true, pawnBody, a21, i0, wpL_loc q61, a19, ik, a18, r4, s4, r7, s7, borN, bandN, e6, b21, j1, wpL_loc q71, b19, jk, b18, r5, s5, r6, s6, e7]
    refine nx _ _ ?_
    have g'' := g'.set7 (l := q7 ++ [.int (((kh[k]'(by lia)) &&& (x5 ||| x6) : Nat) : Int)])
    rw [List.length_append, List.length_append, q62, q72] at g''
    exact g''
theorem ev_add_pawns (S : Shape F R) (h8 : rays.length = 8) (g : RSs H X F R k19 k23 rays kn 0 0 cs) : wpO (run (n+1) 23 [.loc H.length] X) fun v X' => v = .none ∧ RSs H X' F R k19 k23 rays kn (F * R) (F * R) cs := by
  refine wp_run (d := d_add_pawns) rfl rfl ?_
  show wpSs n d_add_pawns.body [some (.loc H.length), none] X _
  have hsz := S.sz
  have a12 := g.g.at.2.2.1
  simp only [d_add_pawns, z14, z1q, z1r, z1d, z0p, z1a, z15, z1b, z0a, z09, z1f, z1e, z0o, z0u, z0v, z0s, z0r, z0q, z16, z0l, z17, z18, z1o, z1p, z0t, z0g, z0f, z0d, z0c, z0b, z0e, z0z, z0y, z0x, z0w, z10, z19, z1s, z0h, z0j, z0i, z0k, z1c, z1i, z1j, z1l, z1k, z1m, z1g, z0m, z0n, z07, z06, z05, z04, z08, z11, z1n, z12, z13, z1h, z1t, z3u, z3x, z1x, z1y, z3h, z3i, z3r, z3s, z3j, z3k, z3m, z3o, z3q, z3t, z3n, z2p, z2s, z37, z2k, z24, z25, z30, z2t, z31, z2e, z2d, z3g, z3f, z2m, z2n, z2u, z2j, z2x, z35, z2l, z3a, z38, z2i, z2q, z2y, z36, z40, z41, z3y, z45, z42, z43, z3b, z3c, z47, z1w, z3d, z46, yy0, yy1, yy2, yy3, yy4, yy5, z00, z02, z01, z03, z1v, z1u, z1z, z22, z20, z21, z2a, z28, z29, z27, z26, z2b, theGlobs, yy8, yy9, yy6, ne_eq, yy7, Nat.reduceAdd, Nat.reduceLT, if_true, a12, cb_range1 hsz, src_range1 hsz, rngList_len]
  refine ⟨by lia, ?_⟩
  refine pawn_loop (k := 0) S h8 (F * R) X _ (by lia) g fun X' v1 g' => ?_
  simp only [z14, z1q, z1r, z1d, z0p, z1a, z15, z1b, z0a, z09, z1f, z1e, z0o, z0u, z0v, z0s, z0r, z0q, z16, z0l, z17, z18, z1o, z1p, z0t, z0g, z0f, z0d, z0c, z0b, z0e, z0z, z0y, z0x, z0w, z10, z19, z1s, z0h, z0j, z0i, z0k, z1c, z1i, z1j, z1l, z1k, z1m, z1g, z0m, z0n, z07, z06, z05, z04, z08, z11, z1n, z12, z13, z1h, z1t, z3u, z3x, z1x, z1y, z3h, z3i, z3r, z3s, z3j, z3k, z3m, z3o, z3q, z3t, z3n, z2p, z2s, z37, z2k, z24, z25, z30, z2t, z31, z2e, z2d, z3g, z3f, z2m, z2n, z2u, z2j, z2x, z35, z2l, z3a, z38, z2i, z2q, z2y, z36, z40, z41, z3y, z45, z42, z43, z3b, z3c, z47, z1w, z3d, z46, yy0, yy1, yy2, yy3, yy4, yy5, z00, z02, z01, z03, z1v, z1u, z1z, z22, z20, z21, z2a, z28, z29, z27, z26, z2b, theGlobs, yy8, yy9, yy6, ne_eq, yy7, Nat.reduceAdd, Nat.reduceLT, if_true]
  exact g'

noncomputable def nfN (F R : Nat) : Nat := andn (2 ^ (F * R) - 1) (colMask F R 0)
noncomputable def nlN (F R : Nat) : Nat := andn (2 ^ (F * R) - 1) (colMask F R (F - 1))
noncomputable def nf2N (F R : Nat) : Nat := andn (nfN F R) (colMask F R 1)
noncomputable def nl2N (F R : Nat) : Nat := andn (nlN F R) (colMask F R (F - 2))
theorem full_lt {N : Nat} : 2 ^ N - 1 < 2 ^ N := by have := Nat.two_pow_pos N; lia
theorem nf_lt (S : Shape F R) : nfN F R < 2 ^ 64 := S.lt64 (Nat.lt_of_le_of_lt (andn_le _ _) full_lt)
theorem nl_lt (S : Shape F R) : nlN F R < 2 ^ 64 := S.lt64 (Nat.lt_of_le_of_lt (andn_le _ _) full_lt)
theorem nf2_lt (S : Shape F R) : nf2N F R < 2 ^ 64 := Nat.lt_of_le_of_lt (andn_le _ _) (nf_lt S)
theorem nl2_lt (S : Shape F R) : nl2N F R < 2 ^ 64 := Nat.lt_of_le_of_lt (andn_le _ _) (nl_lt S)
noncomputable abbrev knightBody : Sts := .cons (.assign 7 (.bin .shl (.const (.int 1)) (.var 6)))
 (.cons (.assign 8 (.bin .bor (.bin .band (.bin .shl (.var 7) (.const (.int 1))) (.var 2)) (.bin .band (.bin .shr (.var 7) (.const (.int 1))) (.var 3))))
 (.cons (.assign 9 (.bin .bor (.bin .band (.bin .shl (.var 7) (.const (.int 2))) (.var 4)) (.bin .band (.bin .shr (.var 7) (.const (.int 2))) (.var 5))))
 (.cons (.assign 10 (.bin .bor (.bin .bor (.bin .bor (.bin .shl (.var 8) (.bin .mul (.const (.int 2)) (.var 1))) (.bin .shr (.var 8) (.bin .mul (.const (.int 2)) (.var 1)))) (.bin .shl (.var 9) (.var 1))) (.bin .shr (.var 9) (.var 1))))
 (.cons (.expr (.append (.attr (.var 0) 20) (.bin .band (.var 10) (.attr (.var 0) 13))))
 .nil))))
theorem wb_shl2 {a : Nat} {Q : PV → AH → Prop} (ha : a < 2 ^ 64) : wbi X .shl a 2 Q = Q (.int ((a <<< 2 : Nat) : Int)) X := wb_shlN (b := 2) (by decide) ha
theorem wb_shr2 {a : Nat} {Q : PV → AH → Prop} : wbi X .shr a 2 Q = Q (.int ((a >>> 2 : Nat) : Int)) X := wb_shrN (b := 2)
theorem knight_loop (S : Shape F R) {Q : Flw → Vars → AH → Prop} {x y z : Int} {vs0 : List PV} : ∀ (m k : Nat) (X : AH) (v6 v7 v8 v9 v10 : Option PV), k + m = F * R → RSs H X F R k19 k23 rays k p0 p1 cs →
    (∀ X' v6 v7 v8 v9 v10, RSs H X' F R k19 k23 rays (F * R) p0 p1 cs → Q .next [some (.loc H.length), some (.int F), some (.int (nfN F R : Nat)), some (.int (nlN F R : Nat)), some (.int (nf2N F R : Nat)), some (.int (nl2N F R : Nat)), v6, v7, v8, v9, v10] X') →
    wpF n (.rng x y z) vs0 [6] knightBody (rngList (k : Int) 1 m) [some (.loc H.length), some (.int F), some (.int (nfN F R : Nat)), some (.int (nlN F R : Nat)), some (.int (nf2N F R : Nat)), some (.int (nl2N F R : Nat)), v6, v7, v8, v9, v10] X Q
  | 0, k, X, v6, v7, v8, v9, v10, hk, g, q => by
    rw [Nat.add_zero] at hk
    rw [rngList]; refine wpF_nil ?_
    rw [hk] at g
    exact ⟨rfl, q _ _ _ _ _ _ g⟩
  | m + 1, k, X, v6, v7, v8, v9, v10, hk, g, q => by
    have nx := fun X v6 v7 v8 v9 v10 g => knight_loop S (Q := Q) (x := x) (y := y) (z := z) (vs0 := vs0) m (k + 1) X v6 v7 v8 v9 v10 (by lia) g q
    have hsz := S.sz
    have hF := S.f8
    rw [rng_cons]; refine wpF_cons ?_
    refine ⟨rfl, ?_⟩
    obtain ⟨a10, a11, a12, a13, a15, a16, a17, a18, a19, a20, a21, a22, a23⟩ := g.g.at
    obtain ⟨q5, q51, q52⟩ := g.g.kn
    have e5 : q5.length ≤ 1000 := by lia
    have m1 : ∀ y, (small 2 || small y) = true := fun y => rfl
    have h2F : (2 : Int) * (F : Int) = ((2 * F : Nat) : Int) := by lia
    have hb : 1 <<< k < 2 ^ 64 := one_shl_lt (by lia)
    have hn : ((1 <<< k) <<< 1 &&& nfN F R) ||| ((1 <<< k) >>> 1 &&& nlN F R) < 2 ^ 64 := Nat.or_lt_two_pow (Nat.lt_of_le_of_lt Nat.and_le_right (nf_lt S)) (Nat.lt_of_le_of_lt Nat.and_le_right (nl_lt S))
    have hf : ((1 <<< k) <<< 2 &&& nf2N F R) ||| ((1 <<< k) >>> 2 &&& nl2N F R) < 2 ^ 64 := Nat.or_lt_two_pow (Nat.lt_of_le_of_lt Nat.and_le_right (nf2_lt S)) (Nat.lt_of_le_of_lt Nat.and_le_right (nl2_lt S))
    simp only [bindT_one, bindT_tup, setAll_cons, setAll_nil, og_t, decide_true, z14, z1q, z1r, z1d, z0p, z1a, z15, z1b, z0a, z09, z1f, z1e, z0o, z0u, z0v, z0s, z0r, z0q, z16, z0l, z17, z18, z1o, z1p, z0t, z0g, z0f, z0d, z0c, z0b, z0e, z0z, z0y, z0x, z0w, z10, z19, z1s, z0h, z0j, z0i, z0k, z1c, z1i, z1j, z1l, z1k, z1m, z1g, z0m, z0n, z07, z06, z05, z04, z08, z11, z1n, z12, z13, z1h, z1t, z3u, z3x, z1x, z1y, z3h, z3i, z3r, z3s, z3j, z3k, z3m, z3o, z3q, z3t, z3n, z2p, z2s, z37, z2k, z24, z25, z30, z2t, z31, z2e, z2d, z3g, z3f, z2m, z2n, z2u, z2j, z2x, z35, z2l, z3a, z38, z2i, z2q, z2y, z36, z40, z41, z3y, z45, z42, z43, z3b, z3c, z47, z1w, z3d, z46, yy0, yy1, yy2, yy3, yy4, yy5, z00, z02, z01, z03, z1v, z1u, z1z, z22, z20, z21, z2a, z28, z29, z27, z26, z2b, theGlobs, yy8, yy9, yy6, ne_eq, yy7, Nat.reduceAdd, Nat.reduceLT, if_true, knightBody, wb_one_shl (show k ≤ 1000000 by lia), wb_shl1 hb, wb_shr1, wb_shl2 hb, wb_shr2, bandN, borN, wb_mul, m1, h2F, wb_shlN (show 2 * F ≤ 1000000 by lia) hn, wb_shlN (show F ≤ 1000000 by lia) hf, wb_shrN, a20, wpL_loc q51, a13, e5]
    refine nx _ _ _ _ _ _ ?_
    have g' : ∀ v : PV, RSs H (X.set (H.length + 5) (.list (q5 ++ [v]))) F R k19 k23 rays (k + 1) p0 p1 cs := fun v => by
      have := g.set5 (l := q5 ++ [v])
      rw [List.length_append, q52] at this
      exact this
    exact g' _
theorem ev_add_knights (S : Shape F R) (g : RSs H X F R k19 k23 rays 0 p0 p1 cs) : wpO (run (n+1) 24 [.loc H.length] X) fun v X' => v = .none ∧ RSs H X' F R k19 k23 rays (F * R) p0 p1 cs := by
  refine wp_run (d := d_add_knights) rfl rfl ?_
  show wpSs n d_add_knights.body [some (.loc H.length), none, none, none, none, none, none, none, none, none, none] X _
  have hsz := S.sz
  have hF := S.f2; have hF8 := S.f8
  obtain ⟨a10, a11, a12, a13, a15, a16, a17, a18, a19, a20, a21, a22, a23⟩ := g.g.at
  have i1 : vGetItem X (.loc (H.length + 1)) (.int ((F : Int) - 1)) = some (.int (colMask F R (F - 1) : Nat)) := by
    rw [show ((F : Int) - 1) = ((F - 1 : Nat) : Int) by lia]; exact item_of g.g.fm (fmL_get (by lia)) (by lia)
  have i2 : vGetItem X (.loc (H.length + 1)) (.int ((F : Int) - 2)) = some (.int (colMask F R (F - 2) : Nat)) := by
    rw [show ((F : Int) - 2) = ((F - 2 : Nat) : Int) by lia]; exact item_of g.g.fm (fmL_get (by lia)) (by lia)
  have i3 : vGetItem X (.loc (H.length + 1)) (.int 0) = some (.int (colMask F R 0 : Nat)) := item_of (k := 0) g.g.fm (fmL_get (by lia)) (by lia)
  have i4 : vGetItem X (.loc (H.length + 1)) (.int 1) = some (.int (colMask F R 1 : Nat)) := item_of (k := 1) g.g.fm (fmL_get (by lia)) (by lia)
  simp only [d_add_knights, z14, z1q, z1r, z1d, z0p, z1a, z15, z1b, z0a, z09, z1f, z1e, z0o, z0u, z0v, z0s, z0r, z0q, z16, z0l, z17, z18, z1o, z1p, z0t, z0g, z0f, z0d, z0c, z0b, z0e, z0z, z0y, z0x, z0w, z10, z19, z1s, z0h, z0j, z0i, z0k, z1c, z1i, z1j, z1l, z1k, z1m, z1g, z0m, z0n, z07, z06, z05, z04, z08, z11, z1n, z12, z13, z1h, z1t, z3u, z3x, z1x, z1y, z3h, z3i, z3r, z3s, z3j, z3k, z3m, z3o, z3q, z3t, z3n, z2p, z2s, z37, z2k, z24, z25, z30, z2t, z31, z2e, z2d, z3g, z3f, z2m, z2n, z2u, z2j, z2x, z35, z2l, z3a, z38, z2i, z2q, z2y, z36, z40, z41, z3y, z45, z42, z43, z3b, z3c, z47, z1w, z3d, z46, yy0, yy1, yy2, yy3, yy4, yy5, z00, z02, z01, z03, z1v, z1u, z1z, z22, z20, z21, z2a, z28, z29, z27, z26, z2b, theGlobs, yy8, yy9, yy6, ne_eq, yy7, Nat.reduceAdd, Nat.reduceLT, if_true, a10, a12, a13, a16, i1, i2, i3, i4, bandnN, cb_range1 hsz, src_range1 hsz, rngList_len]
  refine ⟨by lia, ?_⟩
  refine knight_loop (k := 0) S (F * R) X _ _ _ _ _ (by lia) g fun X' v6 v7 v8 v9 v10 g' => ?_
  simp only [z14, z1q, z1r, z1d, z0p, z1a, z15, z1b, z0a, z09, z1f, z1e, z0o, z0u, z0v, z0s, z0r, z0q, z16, z0l, z17, z18, z1o, z1p, z0t, z0g, z0f, z0d, z0c, z0b, z0e, z0z, z0y, z0x, z0w, z10, z19, z1s, z0h, z0j, z0i, z0k, z1c, z1i, z1j, z1l, z1k, z1m, z1g, z0m, z0n, z07, z06, z05, z04, z08, z11, z1n, z12, z13, z1h, z1t, z3u, z3x, z1x, z1y, z3h, z3i, z3r, z3s, z3j, z3k, z3m, z3o, z3q, z3t, z3n, z2p, z2s, z37, z2k, z24, z25, z30, z2t, z31, z2e, z2d, z3g, z3f, z2m, z2n, z2u, z2j, z2x, z35, z2l, z3a, z38, z2i, z2q, z2y, z36, z40, z41, z3y, z45, z42, z43, z3b, z3c, z47, z1w, z3d, z46, yy0, yy1, yy2, yy3, yy4, yy5, z00, z02, z01, z03, z1v, z1u, z1z, z22, z20, z21, z2a, z28, z29, z27, z26, z2b, theGlobs, yy8, yy9, yy6, ne_eq, yy7, Nat.reduceAdd, Nat.reduceLT, if_true]
  exact g'
noncomputable abbrev castleBody : Sts := .cons (.assign 3 (.bin .mul (.bin .mul (.bin .shr (.var 2) (.const (.int 1))) (.bin .sub (.attr (.var 0) 11) (.const (.int 1)))) (.attr (.var 0) 10)))
 (.cons (.assign 4 (.bin .sub (.attr (.var 0) 10) (.const (.int 1))))
 (.cons (.assign 5 (.const (.int 1)))
 (.cons (.ite (.bin .band (.var 2) (.const (.int 1))) (.cons (.assign 4 (.const (.int 0))) (.cons (.assign 5 (.neg (.const (.int 1)))) .nil)) .nil)
 (.cons (.assign 6 (.bin .add (.var 1) (.bin .mul (.const (.int 2)) (.var 5))))
 (.cons (.ite (.and (.cons (.attr (.var 0) 15) (.cons (.cmp .gt (.bin .mul (.bin .sub (.var 4) (.var 6)) (.var 5)) (.const (.int 0))) .nil))) (.cons (.expr (.append (.attr (.var 0) 22) (.tuple (.cons (.bin .add (.var 3) (.var 1)) (.cons (.bin .add (.var 3) (.var 6)) (.cons (.bin .add (.var 3) (.var 4)) (.cons (.bin .sub (.bin .add (.var 3) (.var 6)) (.var 5)) .nil)))))))
 (.cons (.augItem (.attr (.var 0) 23) (.bin .add (.var 3) (.var 1)) .bor (.bin .shl (.const (.int 1)) (.var 2)))
 (.cons (.augItem (.attr (.var 0) 23) (.bin .add (.var 3) (.var 4)) .bor (.bin .shl (.const (.int 1)) (.var 2)))
 .nil))) (.cons (.expr (.append (.attr (.var 0) 22) (.const .none)))
 .nil))
 .nil)))))
theorem castle_loop (S : Shape F R) {Q : Flw → Vars → AH → Prop} {x y z : Int} {vs0 : List PV} {st : Int} : ∀ (m k : Nat) (X : AH) (v2 v3 v4 v5 v6 : Option PV), k + m = 4 → RSs H X F R k19 k23 rays kn p0 p1 k →
    (∀ X' v2 v3 v4 v5 v6, RSs H X' F R k19 k23 rays kn p0 p1 4 → Q .next [some (.loc H.length), some (.int st), v2, v3, v4, v5, v6] X') →
    wpF n (.rng x y z) vs0 [2] castleBody (rngList (k : Int) 1 m) [some (.loc H.length), some (.int st), v2, v3, v4, v5, v6] X Q
  | 0, k, X, v2, v3, v4, v5, v6, hk, g, q => by
    rw [Nat.add_zero] at hk
    rw [rngList]; refine wpF_nil ?_
    rw [hk] at g
    exact ⟨rfl, q _ _ _ _ _ _ g⟩
  | m + 1, k, X, v2, v3, v4, v5, v6, hk, g, q => by
    have nx := fun X v2 v3 v4 v5 v6 g => castle_loop S (Q := Q) (x := x) (y := y) (z := z) (vs0 := vs0) (st := st) m (k + 1) X v2 v3 v4 v5 v6 (by lia) g q
    have hF := S.f8
    rw [rng_cons]; refine wpF_cons ?_
    refine ⟨rfl, ?_⟩
    obtain ⟨a10, a11, a12, a13, a15, a16, a17, a18, a19, a20, a21, a22, a23⟩ := g.g.at
    obtain ⟨q9, q91, q92⟩ := g.g.cs
    have e9 : q9.length ≤ 1000 := by lia
    have m1 : ∀ y, (small y || small (F : Int)) = true := fun y => by rw [smallF (by lia)]; simp
    have m2 : ∀ y, (small ((k >>> 1 : Nat) : Int) || small y) = true := fun y => by
      have : k >>> 1 ≤ k := by rw [Nat.shiftRight_eq_div_pow]; exact Nat.div_le_self _ _
      rw [small_of (by lia) (by lia)]; rfl
    have m3 : ∀ y, (small 2 || small y) = true := fun y => rfl
    have g' := g.set9 (l := q9 ++ [.none])
    rw [List.length_append, q92] at g'
    simp only [bindT_one, bindT_tup, setAll_cons, setAll_nil, og_t, decide_true, z14, z1q, z1r, z1d, z0p, z1a, z15, z1b, z0a, z09, z1f, z1e, z0o, z0u, z0v, z0s, z0r, z0q, z16, z0l, z17, z18, z1o, z1p, z0t, z0g, z0f, z0d, z0c, z0b, z0e, z0z, z0y, z0x, z0w, z10, z19, z1s, z0h, z0j, z0i, z0k, z1c, z1i, z1j, z1l, z1k, z1m, z1g, z0m, z0n, z07, z06, z05, z04, z08, z11, z1n, z12, z13, z1h, z1t, z3u, z3x, z1x, z1y, z3h, z3i, z3r, z3s, z3j, z3k, z3m, z3o, z3q, z3t, z3n, z2p, z2s, z37, z2k, z24, z25, z30, z2t, z31, z2f, z32, z2e, z2d, z3g, z3f, z2m, z2n, z2u, z2j, z2x, z35, z2l, z3a, z38, z2i, z2q, z2y, z36, z2o, z40, z41, z3y, z45, z42, z43, z3b, z3c, z47, z1w, z3d, z46, yy0, yy1, yy2, yy3, yy4, yy5, z00, z02, z01, z03, z1v, z1u, z1z, z22, z20, z21, z2a, z28, z29, z27, z26, z2b, theGlobs, yy8, yy9, yy6, ne_eq, yy7, Nat.reduceAdd, Nat.reduceLT, if_true, castleBody, wb_shr1, a11, a10, wb_mul, m1, m2, m3, band1, a15, Bool.false_eq_true, if_false, a22, wpL_loc q91, e9]
    split
    · exact nx _ _ _ _ _ _ g'
    · exact nx _ _ _ _ _ _ g'
theorem ev_add_castles (S : Shape F R) (g : RSs H X F R k19 k23 rays kn p0 p1 0) : wpO (run (n+1) 25 [.loc H.length] X) fun v X' => v = .none ∧ ∃ k, RSs H X' F R k19 k rays kn p0 p1 4 := by
  refine wp_run (d := d_add_castles) rfl rfl ?_
  show wpSs n d_add_castles.body [some (.loc H.length), none, none, none, none, none, none] X _
  have hsz := S.sz
  have hln := g.g.ln
  have g2 := g.g.push (E := [.list [.int 0]])
  have c12 := g2.at.2.2.1
  have g1 := g.g.push (E := [.list [.int 0], .list (List.replicate (F * R) (.int 0))])
  have e := setA_of (k := 23) (v := .loc (X.length + 1)) g1.g0 (by simp [geoFs])
  rw [geo_put23 (k := X.length + 1 - H.length) (by lia)] at e
  have g3 := g1.set0 (k := k19) (k' := X.length + 1 - H.length)
  have b10 := g3.at.1
  have e1 : ∀ X : AH, callB (run n) inits .range1 [.int 4] X = some (.rng 0 4 1, X) := fun X => rfl
  have e2 : ∀ X : AH, source X (.rng 0 4 1) = some (rngList 0 1 4) := fun X => rfl
  have eq2 : ((!decide ((2 : Int) = 0)) && decide ((2 : Int).natAbs < 1073741824)) = true := rfl
  simp only [d_add_castles, z14, z1q, z1r, z1d, z0p, z1a, z15, z1b, z0a, z09, z1f, z1e, z0o, z0u, z0v, z0s, z0r, z0q, z16, z0l, z17, z18, z1o, z1p, z0t, z0g, z0f, z0d, z0c, z0b, z0e, z0z, z0y, z0x, z0w, z10, z19, z1s, z0h, z0j, z0i, z0k, z1c, z1i, z1j, z1l, z1k, z1m, z1g, z0m, z0n, z07, z06, z05, z04, z08, z11, z1n, z12, z13, z1h, z1t, z3x, z1x, z1y, z3h, z3i, z3r, z3s, z3j, z3k, z3m, z3o, z3q, z3t, z3n, z2p, z2s, z37, z2k, z24, z25, z30, z2t, z31, z2e, z2d, z3g, z3f, z2m, z2n, z2u, z2j, z2x, z35, z2l, z3a, z38, z2i, z2q, z2y, z36, z40, z41, z3y, z45, z42, z43, z3b, z3c, z47, z1w, z3d, z46, yy0, yy1, yy2, yy3, yy4, yy5, z00, z02, z01, z03, z1v, z1u, z1z, z22, z20, z21, z2a, z28, z29, z27, z26, z2b, theGlobs, yy8, yy9, yy6, ne_eq, yy7, Nat.reduceAdd, Nat.reduceLT, if_true]
  rw [z3u]
  simp only [z14, z1q, z1r, z1d, z0p, z1a, z15, z1b, z0a, z09, z1f, z1e, z0o, z0u, z0v, z0s, z0r, z0q, z16, z0l, z17, z18, z1o, z1p, z0t, z0g, z0f, z0d, z0c, z0b, z0e, z0z, z0y, z0x, z0w, z10, z19, z1s, z0h, z0j, z0i, z0k, z1c, z1i, z1j, z1l, z1k, z1m, z1g, z0m, z0n, z07, z06, z05, z04, z08, z11, z1n, z12, z13, z1h, z1t, z3x, z1x, z1y, z3h, z3i, z3r, z3s, z3j, z3k, z3m, z3o, z3q, z3t, z3n, z2p, z2s, z37, z2k, z24, z25, z30, z2t, z31, z2e, z2d, z3g, z3f, z2m, z2n, z2u, z2j, z2x, z35, z2l, z3a, z38, z2i, z2q, z2y, z36, z40, z41, z3y, z45, z42, z43, z3b, z3c, z47, z1w, z3d, z46, yy0, yy1, yy2, yy3, yy4, yy5, z00, z02, z01, z03, z1v, z1u, z1z, z22, z20, z21, z2a, z28, z29, z27, z26, z2b, theGlobs, yy8, yy9, yy6, ne_eq, yy7, Nat.reduceAdd, Nat.reduceLT, if_true, c12, wb_rep (H := X) (show F * R ≤ 1000 by lia), Nat.reduceLeDiff, e]
  rw [z3u]
  simp only [z14, z1q, z1r, z1d, z0p, z1a, z15, z1b, z0a, z09, z1f, z1e, z0o, z0u, z0v, z0s, z0r, z0q, z16, z0l, z17, z18, z1o, z1p, z0t, z0g, z0f, z0d, z0c, z0b, z0e, z0z, z0y, z0x, z0w, z10, z19, z1s, z0h, z0j, z0i, z0k, z1c, z1i, z1j, z1l, z1k, z1m, z1g, z0m, z0n, z07, z06, z05, z04, z08, z11, z1n, z12, z13, z1h, z1t, z3x, z1x, z1y, z3h, z3i, z3r, z3s, z3j, z3k, z3m, z3o, z3q, z3t, z3n, z2p, z2s, z37, z2k, z24, z25, z30, z2t, z31, z2e, z2d, z3g, z3f, z2m, z2n, z2u, z2j, z2x, z35, z2l, z3a, z38, z2i, z2q, z2y, z36, z40, z41, z3y, z45, z42, z43, z3b, z3c, z47, z1w, z3d, z46, yy0, yy1, yy2, yy3, yy4, yy5, z00, z02, z01, z03, z1v, z1u, z1z, z22, z20, z21, z2a, z28, z29, z27, z26, z2b, theGlobs, yy8, yy9, yy6, ne_eq, yy7, Nat.reduceAdd, Nat.reduceLT, if_true, b10, wb_fdiv, eq2]
  rw [z3u]
  simp only [z14, z1q, z1r, z1d, z0p, z1a, z15, z1b, z0a, z09, z1f, z1e, z0o, z0u, z0v, z0s, z0r, z0q, z16, z0l, z17, z18, z1o, z1p, z0t, z0g, z0f, z0d, z0c, z0b, z0e, z0z, z0y, z0x, z0w, z10, z19, z1s, z0h, z0j, z0i, z0k, z1c, z1i, z1j, z1l, z1k, z1m, z1g, z0m, z0n, z07, z06, z05, z04, z08, z11, z1n, z12, z13, z1h, z1t, z3x, z1x, z1y, z3h, z3i, z3r, z3s, z3j, z3k, z3m, z3o, z3q, z3t, z3n, z2p, z2s, z37, z2k, z24, z25, z30, z2t, z31, z2e, z2d, z3g, z3f, z2m, z2n, z2u, z2j, z2x, z35, z2l, z3a, z38, z2i, z2q, z2y, z36, z40, z41, z3y, z45, z42, z43, z3b, z3c, z47, z1w, z3d, z46, yy0, yy1, yy2, yy3, yy4, yy5, z00, z02, z01, z03, z1v, z1u, z1z, z22, z20, z21, z2a, z28, z29, z27, z26, z2b, theGlobs, yy8, yy9, yy6, ne_eq, yy7, Nat.reduceAdd, Nat.reduceLT, if_true, e1, e2, rngList_len, Nat.reduceLeDiff]
  refine castle_loop (k := 0) S 4 _ _ _ _ _ _ (by lia) ⟨g3, (g.k.push).setN (by have := g.k.1; lia), g.nk⟩ fun X' v2 v3 v4 v5 v6 g' => ?_
  simp only [z14, z1q, z1r, z1d, z0p, z1a, z15, z1b, z0a, z09, z1f, z1e, z0o, z0u, z0v, z0s, z0r, z0q, z16, z0l, z17, z18, z1o, z1p, z0t, z0g, z0f, z0d, z0c, z0b, z0e, z0z, z0y, z0x, z0w, z10, z19, z1s, z0h, z0j, z0i, z0k, z1c, z1i, z1j, z1l, z1k, z1m, z1g, z0m, z0n, z07, z06, z05, z04, z08, z11, z1n, z12, z13, z1h, z1t, z3x, z1x, z1y, z3h, z3i, z3r, z3s, z3j, z3k, z3m, z3o, z3q, z3t, z3n, z2p, z2s, z37, z2k, z24, z25, z30, z2t, z31, z2e, z2d, z3g, z3f, z2m, z2n, z2u, z2j, z2x, z35, z2l, z3a, z38, z2i, z2q, z2y, z36, z40, z41, z3y, z45, z42, z43, z3b, z3c, z47, z1w, z3d, z46, yy0, yy1, yy2, yy3, yy4, yy5, z00, z02, z01, z03, z1v, z1u, z1z, z22, z20, z21, z2a, z28, z29, z27, z26, z2b, theGlobs, yy8, yy9, yy6, ne_eq, yy7, Nat.reduceAdd, Nat.reduceLT, if_true]
  exact ⟨_, g'⟩
theorem ev_make_geometry (S : Shape F R) : ∃ X', run (n+3) 26 [.int F, .int R, .bool false, .bool false] H = some (.loc H.length, X') ∧ H <+: X' ∧ Geo X' H.length F R := by
  have key : wpO (run (n+3) 26 [.int F, .int R, .bool false, .bool false] H) fun v X' => v = .loc H.length ∧ H <+: X' ∧ Geo X' H.length F R := by
    refine wp_run (d := d_make_geometry) rfl rfl ?_
    show wpSs (n+2) d_make_geometry.body [some (.int F), some (.int R), some (.bool false), some (.bool false), none] H _
    have hF := S.f2; have hF8 := S.f8; have hR := S.r3; have hR8 := S.r8
    have d1 : decide ((F : Int) < 2) = false := decide_eq_false (by lia)
    have d2 : decide (8 < (F : Int)) = false := decide_eq_false (by lia)
    have d3 : decide ((R : Int) < 3) = false := decide_eq_false (by lia)
    have d4 : decide (8 < (R : Int)) = false := decide_eq_false (by lia)
    have hc : ∀ H : AH, callB (run (n+2)) inits (.cls 1) [.int F, .int R, .bool false, .bool false] H = some (.loc H.length, H ++ tm F R H.length [] []) := fun H => by
      show ob (run (n+2) 18 [.loc H.length, .int F, .int R, .bool false, .bool false] (H ++ .inst 1 [] :: [])) _ = _
      rw [ev_Geometry S]; rfl
    have g0 : GS H (H ++ tm F R H.length (fmL F R) (rmL F R)) F R 4 10 [] 0 0 0 0 := by
      obtain ⟨t0, t1, t2⟩ := tm_get (H := H) (F := F) (R := R) (fmL F R) (rmL F R)
      refine ⟨List.prefix_append _ _, t0, t1, t2, ?_, ⟨[], ?_, rfl⟩, ⟨[], ?_, rfl⟩, ⟨[], ?_, rfl⟩, ?_, ⟨[], ?_, rfl⟩, (fun l hl => by cases hl), ?_⟩ <;> simp [tm]
    simp only [d_make_geometry, z14, z1q, z1r, z1d, z0p, z1a, z15, z1b, z0a, z09, z1f, z1e, z0o, z0u, z0v, z0s, z0r, z0q, z16, z0l, z17, z18, z1o, z1p, z0t, z0g, z0f, z0d, z0c, z0b, z0e, z0z, z0y, z0x, z0w, z10, z19, z1s, z0h, z0j, z0i, z0k, z1c, z1i, z1j, z1l, z1k, z1m, z1g, z0m, z0n, z07, z06, z05, z04, z08, z11, z1n, z12, z13, z1h, z1t, z3x, z1x, z1y, z3h, z3i, z3r, z3s, z3j, z3k, z3m, z3o, z3q, z3t, z3n, z2p, z2s, z37, z2k, z24, z25, z30, z2t, z31, z2e, z2d, z3g, z3f, z2m, z2n, z2u, z2j, z2x, z35, z2l, z3a, z38, z2i, z2q, z2y, z36, z40, z41, z3y, z45, z42, z43, z3b, z3c, z47, z1w, z3d, z46, yy0, yy1, yy2, yy3, yy4, yy5, z00, z02, z01, z03, z1v, z1u, z1z, z22, z20, z21, z2a, z28, z29, z27, z26, z2b, theGlobs, yy8, yy9, yy6, ne_eq, yy7, Nat.reduceAdd, Nat.reduceLT, if_true]
    rw [z3u]
    simp only [z14, z1q, z1r, z1d, z0p, z1a, z15, z1b, z0a, z09, z1f, z1e, z0o, z0u, z0v, z0s, z0r, z0q, z16, z0l, z17, z18, z1o, z1p, z0t, z0g, z0f, z0d, z0c, z0b, z0e, z0z, z0y, z0x, z0w, z10, z19, z1s, z0h, z0j, z0i, z0k, z1c, z1i, z1j, z1l, z1k, z1m, z1g, z0m, z0n, z07, z06, z05, z04, z08, z11, z1n, z12, z13, z1h, z1t, z3x, z1x, z1y, z3h, z3i, z3r, z3s, z3j, z3k, z3m, z3o, z3q, z3t, z3n, z2p, z2s, z37, z2k, z24, z25, z30, z2t, z31, z2e, z2d, z3g, z3f, z2m, z2n, z2u, z2j, z2x, z35, z2l, z3a, z38, z2i, z2q, z2y, z36, z40, z41, z3y, z45, z42, z43, z3b, z3c, z47, z1w, z3d, z46, yy0, yy1, yy2, yy3, yy4, yy5, z00, z02, z01, z03, z1v, z1u, z1z, z22, z20, z21, z2a, z28, z29, z27, z26, z2b, theGlobs, yy8, yy9, yy6, ne_eq, yy7, Nat.reduceAdd, Nat.reduceLT, if_true, z32, d1, d2, d3, d4, Bool.false_eq_true, if_false]
    rw [z3u]
    simp only [z14, z1q, z1r, z1d, z0p, z1a, z15, z1b, z0a, z09, z1f, z1e, z0o, z0u, z0v, z0s, z0r, z0q, z16, z0l, z17, z18, z1o, z1p, z0t, z0g, z0f, z0d, z0c, z0b, z0e, z0z, z0y, z0x, z0w, z10, z19, z1s, z0h, z0j, z0i, z0k, z1c, z1i, z1j, z1l, z1k, z1m, z1g, z0m, z0n, z07, z06, z05, z04, z08, z11, z1n, z12, z13, z1h, z1t, z3x, z1x, z1y, z3h, z3i, z3r, z3s, z3j, z3k, z3m, z3o, z3q, z3t, z3n, z2p, z2s, z37, z2k, z24, z25, z30, z2t, z31, z2e, z2d, z3g, z3f, z2m, z2n, z2u, z2j, z2x, z35, z2l, z3a, z38, z2i, z2q, z2y, z36, z40, z41, z3y, z45, z42, z43, z3b, z3c, z47, z1w, z3d, z46, yy0, yy1, yy2, yy3, yy4, yy5, z00, z02, z01, z03, z1v, z1u, z1z, z22, z20, z21, z2a, z28, z29, z27, z26, z2b, theGlobs, yy8, yy9, yy6, ne_eq, yy7, Nat.reduceAdd, Nat.reduceLT, if_true, hc]
    rw [z3u]
    simp only [z14, z1q, z1r, z1d, z0p, z1a, z15, z1b, z0a, z09, z1f, z1e, z0o, z0u, z0v, z0s, z0r, z0q, z16, z0l, z17, z18, z1o, z1p, z0t, z0g, z0f, z0d, z0c, z0b, z0e, z0z, z0y, z0x, z0w, z10, z19, z1s, z0h, z0j, z0i, z0k, z1c, z1i, z1j, z1l, z1k, z1m, z1g, z0m, z0n, z07, z06, z05, z04, z08, z11, z1n, z12, z13, z1h, z1t, z3x, z1x, z1y, z3h, z3i, z3r, z3s, z3j, z3k, z3m, z3o, z3q, z3t, z3n, z2p, z2s, z37, z2k, z24, z25, z30, z2t, z31, z2e, z2d, z3g, z3f, z2m, z2n, z2u, z2j, z2x, z35, z2l, z3a, z38, z2i, z2q, z2y, z36, z40, z41, z3y, z45, z42, z43, z3b, z3c, z47, z1w, z3d, z46, yy0, yy1, yy2, yy3, yy4, yy5, z00, z02, z01, z03, z1v, z1u, z1z, z22, z20, z21, z2a, z28, z29, z27, z26, z2b, theGlobs, yy8, yy9, yy6, ne_eq, yy7, Nat.reduceAdd, Nat.reduceLT, if_true, ev_add_masks S]
    rw [z3u]
    simp only [z14, z1q, z1r, z1d, z0p, z1a, z15, z1b, z0a, z09, z1f, z1e, z0o, z0u, z0v, z0s, z0r, z0q, z16, z0l, z17, z18, z1o, z1p, z0t, z0g, z0f, z0d, z0c, z0b, z0e, z0z, z0y, z0x, z0w, z10, z19, z1s, z0h, z0j, z0i, z0k, z1c, z1i, z1j, z1l, z1k, z1m, z1g, z0m, z0n, z07, z06, z05, z04, z08, z11, z1n, z12, z13, z1h, z1t, z3m, z2l, z38, z3a, z00, z37, yy5, yy4, z46]
    refine wpO_mono (ev_add_rays S g0) ?_
    rintro v X1 ⟨rfl, k, rays, h8, g1⟩
    rw [z11, z1x, z3u]
    simp only [z14, z1q, z1r, z1d, z0p, z1a, z15, z1b, z0a, z09, z1f, z1e, z0o, z0u, z0v, z0s, z0r, z0q, z16, z0l, z17, z18, z1o, z1p, z0t, z0g, z0f, z0d, z0c, z0b, z0e, z0z, z0y, z0x, z0w, z10, z19, z1s, z0h, z0j, z0i, z0k, z1c, z1i, z1j, z1l, z1k, z1m, z1g, z0m, z0n, z07, z06, z05, z04, z08, z11, z1n, z12, z13, z1h, z1t, z3m, z2l, z38, z3a, z00, z37, yy5, yy4, z46]
    refine wpO_mono (ev_add_pawns S h8 g1) ?_
    rintro v X2 ⟨rfl, g2⟩
    rw [z11, z1x, z3u]
    simp only [z14, z1q, z1r, z1d, z0p, z1a, z15, z1b, z0a, z09, z1f, z1e, z0o, z0u, z0v, z0s, z0r, z0q, z16, z0l, z17, z18, z1o, z1p, z0t, z0g, z0f, z0d, z0c, z0b, z0e, z0z, z0y, z0x, z0w, z10, z19, z1s, z0h, z0j, z0i, z0k, z1c, z1i, z1j, z1l, z1k, z1m, z1g, z0m, z0n, z07, z06, z05, z04, z08, z11, z1n, z12, z13, z1h, z1t, z3m, z2l, z38, z3a, z00, z37, yy5, yy4, z46]
    refine wpO_mono (ev_add_knights S g2) ?_
    rintro v X3 ⟨rfl, g3⟩
    rw [z11, z1x, z3u]
    simp only [z14, z1q, z1r, z1d, z0p, z1a, z15, z1b, z0a, z09, z1f, z1e, z0o, z0u, z0v, z0s, z0r, z0q, z16, z0l, z17, z18, z1o, z1p, z0t, z0g, z0f, z0d, z0c, z0b, z0e, z0z, z0y, z0x, z0w, z10, z19, z1s, z0h, z0j, z0i, z0k, z1c, z1i, z1j, z1l, z1k, z1m, z1g, z0m, z0n, z07, z06, z05, z04, z08, z11, z1n, z12, z13, z1h, z1t, z3m, z2l, z38, z3a, z00, z37, yy5, yy4, z46]
    refine wpO_mono (ev_add_castles S g3) ?_
    rintro v X4 ⟨rfl, k', g4⟩
    rw [z11, z1x, z3u]
    simp only [z14, z1q, z1r, z1d, z0p, z1a, z15, z1b, z0a, z09, z1f, z1e, z0o, z0u, z0v, z0s, z0r, z0q, z16, z0l, z17, z18, z1o, z1p, z0t, z0g, z0f, z0d, z0c, z0b, z0e, z0z, z0y, z0x, z0w, z10, z19, z1s, z0h, z0j, z0i, z0k, z1c, z1i, z1j, z1l, z1k, z1m, z1g, z0m, z0n, z07, z06, z05, z04, z08, z11, z1n, z12, z13, z1h, z1t, z3x, z1x, z1y, z3h, z3i, z3r, z3s, z3j, z3k, z3m, z3o, z3q, z3t, z3n, z2p, z2s, z37, z2k, z24, z25, z30, z2t, z31, z2e, z2d, z3g, z3f, z2m, z2n, z2u, z2j, z2x, z35, z2l, z3a, z38, z2i, z2q, z2y, z36, z40, z41, z3y, z45, z42, z43, z3b, z3c, z47, z1w, z3d, z46, yy0, yy1, yy2, yy3, yy4, yy5, z00, z02, z01, z03, z1v, z1u, z1z, z22, z20, z21, z2a, z28, z29, z27, z26, z2b, theGlobs, yy8, yy9, yy6, ne_eq, yy7, Nat.reduceAdd, Nat.reduceLT, if_true]
    obtain ⟨a10, a11, a12, a13, a15, a16, a17, a18, a19, a20, a21, a22, a23⟩ := g4.g.at
    have i1 : vGetItem X4 (.loc (H.length + 1)) (.int ((F : Int) - 1)) = some (.int (colMask F R (F - 1) : Nat)) := by
      rw [show ((F : Int) - 1) = ((F - 1 : Nat) : Int) by lia]; exact item_of g4.g.fm (fmL_get (by lia)) (by lia)
    have i3 : vGetItem X4 (.loc (H.length + 1)) (.int 0) = some (.int (colMask F R 0 : Nat)) := item_of (k := 0) g4.g.fm (fmL_get (by lia)) (by lia)
    have hfz : freeze H.length (.loc H.length) X4 = (.loc H.length, X4) := by
      simp only [freeze, g4.g.g0, Nat.le_refl, if_true]
    show (freeze H.length (.loc H.length) X4).1 = _ ∧ _
    rw [hfz]
    exact ⟨rfl, g4.g.pre, a10, a11, a12, a13, _, a16, i3, i1⟩
  obtain ⟨v, X', e, rfl, h1, h2⟩ := wpO_inv key
  exact ⟨X', e, h1, h2⟩
end
end Mine
end

section
set_option linter.unusedSimpArgs false
set_option maxRecDepth 100000
namespace Mine
open PySem.Builtin

noncomputable def posFs (b l bd : Nat) : List (Nat × PV) := [(24, .loc l), (25, .none), (26, .loc bd), (27, .loc (b + 4)), (28, .loc (b + 5)), (29, .int 0), (30, .int 0), (31, .int (-1)), (32, .int 0), (13, .int 1), (33, .int 0), (34, .loc (b + 6))]
section
variable {n F R l : Nat} {X : AH}
theorem ev_Position (S : Shape F R) (g : Geo X l F R) : run (n+1) 27 [.loc X.length, .loc l, .none] (X ++ .inst 2 [] :: []) =
    some (.none, X ++ [.inst 2 (posFs X.length l (X.length + 2)), .list [.int 0], .list (List.replicate (F * R) (.int 0)), .list [.int 0], .list (List.replicate 7 (.int 0)), .list [.int 0, .int 0], .list []]) := by
  refine wpO_eq (wp_run (d := d_Position_init) rfl rfl ?_)
  show wpSs n d_Position_init.body [some (.loc X.length), some (.loc l), some .none] (X ++ .inst 2 [] :: []) _
  have e : ∀ (k : Nat) (v : PV) (fs : List (Nat × PV)) (E : AH), fs.length < 100 → vSetAttr (X ++ .inst 2 fs :: E) (.loc X.length) k v = some (X ++ .inst 2 (putF k v fs) :: E) := fun k v fs E h => vset_mid h
  have hsz := S.sz
  have a12 : ∀ E : AH, vGetAttr (X ++ E) (.loc l) 12 = some (.int (F * R : Nat)) := fun E => (g.pre (List.prefix_append X E)).a12
  have r1 : ∀ (fs : List (Nat × PV)) (Q : PV → AH → Prop), wpO (binop (X ++ [.inst 2 fs, .list [.int 0]]) .mul (.loc (X.length + 1)) (.int (F * R : Nat))) Q = Q (.loc (X.length + 2)) (X ++ [.inst 2 fs, .list [.int 0], .list (List.replicate (F * R) (.int 0))]) := fun fs Q => by
    have := wb_rep (H := X ++ [.inst 2 fs]) (v := .int 0) (k := F * R) (Q := Q) (by lia)
    simpa using this
  have r2 : ∀ (fs : List (Nat × PV)) (o1 o2 : AObj) (Q : PV → AH → Prop), wpO (binop (X ++ [.inst 2 fs, o1, o2, .list [.int 0]]) .mul (.loc (X.length + 3)) (.int 7)) Q = Q (.loc (X.length + 4)) (X ++ [.inst 2 fs, o1, o2, .list [.int 0], .list (List.replicate 7 (.int 0))]) := fun fs o1 o2 Q => by
    have := wb_rep (H := X ++ [.inst 2 fs, o1, o2]) (v := .int 0) (k := 7) (Q := Q) (by lia)
    simpa using this
  simp only [d_Position_init, z14, z1q, z1r, z1d, z0p, z1a, z15, z1b, z0a, z09, z1f, z1e, z0o, z0u, z0v, z0s, z0r, z0q, z16, z0l, z17, z18, z1o, z1p, z0t, z0g, z0f, z0d, z0c, z0b, z0e, z0z, z0y, z0x, z0w, z10, z19, z1s, z0h, z0j, z0i, z0k, z1c, z1i, z1j, z1l, z1k, z1m, z1g, z0m, z0n, z07, z06, z05, z04, z08, z11, z1n, z12, z13, z1h, z1t, z3u, z3x, z1x, z1y, z3h, z3i, z3r, z3s, z3j, z3k, z3m, z3o, z3q, z3t, z3n, z2p, z2s, z37, z2k, z24, z25, z30, z2t, z31, z2f, z32, z2e, z2d, z3g, z3f, z2m, z2n, z2u, z2j, z2x, z35, z2l, z3a, z38, z2i, z2q, z2y, z36, z2o, z40, z41, z3y, z45, z42, z43, z3b, z3c, z47, z1w, z3d, z46, yy0, yy1, yy2, yy3, yy4, yy5, z00, z02, z01, z03, z1v, z1u, z1z, z22, z20, z21, z2a, z28, z29, z27, z26, z2b, theGlobs, yy8, yy9, yy6, ne_eq, yy7, Nat.reduceAdd, Nat.reduceLT, if_true, Nat.reduceLeDiff]
  repeat (first | rw [e _ _ _ _ (by simp [putF]), z47] | rw [r1] | rw [r2] | rw [a12, z47] | simp only [z14, z1q, z1r, z1d, z0p, z1a, z15, z1b, z0a, z09, z1f, z1e, z0o, z0u, z0v, z0s, z0r, z0q, z16, z0l, z17, z18, z1o, z1p, z0t, z0g, z0f, z0d, z0c, z0b, z0e, z0z, z0y, z0x, z0w, z10, z19, z1s, z0h, z0j, z0i, z0k, z1c, z1i, z1j, z1l, z1k, z1m, z1g, z0m, z0n, z07, z06, z05, z04, z08, z11, z1n, z12, z13, z1h, z1t, z3u, z3x, z1x, z1y, z3h, z3i, z3r, z3s, z3j, z3k, z3m, z3o, z3q, z3t, z3n, z2p, z2s, z37, z2k, z24, z25, z30, z2t, z31, z2f, z32, z2e, z2d, z3g, z3f, z2m, z2n, z2u, z2j, z2x, z35, z2l, z3a, z38, z2i, z2q, z2y, z36, z2o, z40, z41, z3y, z45, z42, z43, z3b, z3c, z47, z1w, z3d, z46, yy0, yy1, yy2, yy3, yy4, yy5, z00, z02, z01, z03, z1v, z1u, z1z, z22, z20, z21, z2a, z28, z29, z27, z26, z2b, theGlobs, yy8, yy9, yy6, ne_eq, yy7, Nat.reduceAdd, Nat.reduceLT, if_true, Nat.reduceLeDiff, List.append_assoc, List.cons_append, List.nil_append, List.length_append])
  simp [posFs, putF]

noncomputable def val (bl : List Nat) (s : Nat) : Nat := bl.getD s 0
noncomputable def P1 (bl : List Nat) (s : Nat) : Bool := decide (val bl s % 8 = 1)
noncomputable def P6 (bl : List Nat) (s : Nat) : Bool := decide (val bl s % 8 = 6)
noncomputable def Q0 (bl : List Nat) (s : Nat) : Bool := decide (val bl s ≠ 0 ∧ val bl s / 8 = 0)
noncomputable def Q1 (bl : List Nat) (s : Nat) : Bool := decide (val bl s / 8 = 1)
structure Brd (F R : Nat) (bl : List Nat) : Prop where
  len : bl.length = F * R
  vals : ∀ s, val bl s = 0 ∨ val bl s = 1 ∨ val bl s = 6 ∨ val bl s = 9 ∨ val bl s = 14
  pawns : ∀ s, val bl s = 1 ∨ val bl s = 9 → F ≤ s ∧ s + F < F * R
theorem bsum_yes {P : Nat → Bool} {k : Nat} (h : P k = true) : bsum P k ||| 1 <<< k = bsum P (k + 1) := by
  have e := Nat.two_pow_add_eq_or_of_lt (bsum_lt P k) 1
  rw [Nat.mul_one] at e
  rw [bsum, if_pos h, Nat.add_comm, e, Nat.one_shiftLeft, Nat.or_comm]
theorem bsum_no {P : Nat → Bool} {k : Nat} (h : P k = false) : bsum P (k + 1) = bsum P k := by
  rw [bsum, if_neg (by rw [h]; decide), Nat.add_zero]
noncomputable def pm (b l bd : Nat) (o2 : AObj) (ks ss : List PV) : AH := [.inst 2 (posFs b l bd), .list [.int 0], o2, .list [.int 0], .list ks, .list ss, .list []]
noncomputable def kindsL (bl : List Nat) (k : Nat) : List Nat := [0, bsum (P1 bl) k, 0, 0, 0, 0, bsum (P6 bl) k]
noncomputable def sidesL (bl : List Nat) (k : Nat) : List Nat := [bsum (Q0 bl) k, bsum (Q1 bl) k]
noncomputable abbrev posBody : Sts := .cons (.ite (.item (.var 1) (.var 3)) (.cons (.augItem (.attr (.var 2) 27) (.bin .mod (.item (.var 1) (.var 3)) (.const (.int 8))) .bor (.bin .shl (.const (.int 1)) (.var 3)))
 (.cons (.augItem (.attr (.var 2) 28) (.bin .fdiv (.item (.var 1) (.var 3)) (.const (.int 8))) .bor (.bin .shl (.const (.int 1)) (.var 3)))
 .nil)) .nil)
 .nil
theorem pos_loop {bl : List Nat} (S : Shape F R) (B : Brd F R bl) {bd : Nat} {o2 : AObj} (hb : X[bd]? = some (.list (pints bl))) {Q : Flw → Vars → AH → Prop} {x y z : Int} {vs0 : List PV} {v0 : Option PV} : ∀ (m k : Nat) (v3 : Option PV), k + m = F * R →
    (∀ v3, Q .next [v0, some (.loc bd), some (.loc X.length), v3] (X ++ pm X.length l bd o2 (pints (kindsL bl (F * R))) (pints (sidesL bl (F * R))))) →
    wpF n (.rng x y z) vs0 [3] posBody (rngList (k : Int) 1 m) [v0, some (.loc bd), some (.loc X.length), v3] (X ++ pm X.length l bd o2 (pints (kindsL bl k)) (pints (sidesL bl k))) Q
  | 0, k, v3, hk, q => by
    rw [Nat.add_zero] at hk
    rw [rngList, hk]; refine wpF_nil ?_
    exact ⟨rfl, q _⟩
  | m + 1, k, v3, hk, q => by
    have nx := fun v3 => pos_loop S B hb (Q := Q) (x := x) (y := y) (z := z) (vs0 := vs0) (v0 := v0) m (k + 1) v3 (by lia) q
    have hsz := S.sz
    have hkl : k < bl.length := by rw [B.len]; lia
    rw [rng_cons]; refine wpF_cons ?_
    refine ⟨rfl, ?_⟩
    have hv : bl[k]'hkl = val bl k := by simp [val, hkl]
    have eb : ∀ E : AH, vGetItem (X ++ E) (.loc bd) (.int k) = some (.int (val bl k : Nat)) := fun E => by
      rw [← hv]; exact item_of (pre_get (List.prefix_append X E) hb) (pints_get hkl) (by lia)
    have t0 : ∀ ks ss, (X ++ pm X.length l bd o2 ks ss)[X.length]? = some (.inst 2 (posFs X.length l bd)) := fun ks ss => by simp [pm]
    have t4 : ∀ ks ss, (X ++ pm X.length l bd o2 ks ss)[X.length + 4]? = some (.list ks) := fun ks ss => by simp [pm]
    have t5 : ∀ ks ss, (X ++ pm X.length l bd o2 ks ss)[X.length + 5]? = some (.list ss) := fun ks ss => by simp [pm]
    have a27 : ∀ ks ss, vGetAttr (X ++ pm X.length l bd o2 ks ss) (.loc X.length) 27 = some (.loc (X.length + 4)) := fun ks ss => attr_of (t0 ks ss) rfl
    have a28 : ∀ ks ss, vGetAttr (X ++ pm X.length l bd o2 ks ss) (.loc X.length) 28 = some (.loc (X.length + 5)) := fun ks ss => attr_of (t0 ks ss) rfl
    have s4 : ∀ ks ss ks', (X ++ pm X.length l bd o2 ks ss).set (X.length + 4) (.list ks') = X ++ pm X.length l bd o2 ks' ss := fun ks ss ks' => by simp [pm]
    have s5 : ∀ ks ss ss', (X ++ pm X.length l bd o2 ks ss).set (X.length + 5) (.list ss') = X ++ pm X.length l bd o2 ks ss' := fun ks ss ss' => by simp [pm]
    have m8 : ((!decide ((8 : Int) = 0)) && decide ((8 : Int).natAbs < 1073741824)) = true := rfl
    have f8 : ∀ a : Nat, ((a : Nat) : Int).fmod 8 = ((a % 8 : Nat) : Int) := fun a => fmodN a 8
    have d8 : ∀ a : Nat, ((a : Nat) : Int).fdiv 8 = ((a / 8 : Nat) : Int) := fun a => fdivN a 8
    have step : ∀ (i j u w : Nat) (ks' ss' : List Nat), val bl k % 8 = i → val bl k / 8 = j → (kindsL bl k)[i]? = some u → (sidesL bl k)[j]? = some w → (kindsL bl k).set i (u ||| 1 <<< k) = ks' → (sidesL bl k).set j (w ||| 1 <<< k) = ss' → val bl k ≠ 0 →
        ks' = kindsL bl (k + 1) → ss' = sidesL bl (k + 1) →
        wpSs n posBody [v0, some (.loc bd), some (.loc X.length), some (.int k)] (X ++ pm X.length l bd o2 (pints (kindsL bl k)) (pints (sidesL bl k))) (loopF n (.rng x y z) vs0 [3] posBody (rngList ((k + 1 : Nat) : Int) 1 m) Q) := by
      intro i j u w ks' ss' hi hj hu hw hks hss hne e1 e2
      have j2 : (sidesL bl k).length = 2 := rfl
      obtain ⟨u1, u2⟩ := List.getElem?_eq_some_iff.mp hu
      obtain ⟨w1, w2⟩ := List.getElem?_eq_some_iff.mp hw
      have gi : vGetItem (X ++ pm X.length l bd o2 (pints (kindsL bl k)) (pints (sidesL bl k))) (.loc (X.length + 4)) (.int i) = some (.int u) := item_of (t4 _ _) (by rw [pints_get u1, u2]) (by lia)
      have si : ∀ a : Nat, vSetItem (X ++ pm X.length l bd o2 (pints (kindsL bl k)) (pints (sidesL bl k))) (.loc (X.length + 4)) (.int i) (.int a) = some (X ++ pm X.length l bd o2 (pints ((kindsL bl k).set i a)) (pints (sidesL bl k))) := fun a => by
        rw [setItem_of (t4 _ _) (by rw [pints_len]; exact u1) (by lia), s4, pints_set]
      have gj : ∀ ks, vGetItem (X ++ pm X.length l bd o2 ks (pints (sidesL bl k))) (.loc (X.length + 5)) (.int j) = some (.int w) := fun ks => item_of (t5 _ _) (by rw [pints_get w1, w2]) (by lia)
      have sj : ∀ ks (a : Nat), vSetItem (X ++ pm X.length l bd o2 ks (pints (sidesL bl k))) (.loc (X.length + 5)) (.int j) (.int a) = some (X ++ pm X.length l bd o2 ks (pints ((sidesL bl k).set j a))) := fun ks a => by
        rw [setItem_of (t5 _ _) (by rw [pints_len]; exact w1) (by lia), s5, pints_set]
      have hne' : ¬ ((val bl k : Nat) : Int) = 0 := by lia
      simp only [z14, z1q, z1r, z1d, z0p, z1a, z15, z1b, z0a, z09, z1f, z1e, z0o, z0u, z0v, z0s, z0r, z0q, z16, z0l, z17, z18, z1o, z1p, z0t, z0g, z0f, z0d, z0c, z0b, z0e, z0z, z0y, z0x, z0w, z10, z19, z1s, z0h, z0j, z0i, z0k, z1c, z1i, z1j, z1l, z1k, z1m, z1g, z0m, z0n, z07, z06, z05, z04, z08, z11, z1n, z12, z13, z1h, z1t, z3u, z3x, z1x, z1y, z3h, z3i, z3r, z3s, z3j, z3k, z3m, z3o, z3q, z3t, z3n, z2p, z2s, z37, z2k, z24, z25, z30, z2t, z31, z2e, z2d, z3g, z3f, z2m, z2n, z2u, z2j, z2x, z35, z2l, z3a, z38, z2i, z2q, z2y, z36, z40, z41, z3y, z45, z42, z43, z3b, z3c, z47, z1w, z3d, z46, yy0, yy1, yy2, yy3, yy4, yy5, z00, z02, z01, z03, z1v, z1u, z1z, z22, z20, z21, z2a, z28, z29, z27, z26, z2b, theGlobs, yy8, yy9, yy6, ne_eq, yy7, Nat.reduceAdd, Nat.reduceLT, if_true, posBody, eb, hne', not_false_eq_true, wb_mod, m8, f8, hi, a27, gi, wb_one_shl (show k ≤ 1000000 by lia), borN, si, wb_fdiv, d8, hj, a28, gj, sj, hks, hss, e1, e2]
      exact nx _
    simp only [bindT_one, bindT_tup, setAll_cons, setAll_nil, og_t, decide_true, yy0, yy1, yy7, Nat.reduceAdd, Nat.reduceLT, if_true, z47, yy3, yy2]
    have yes : ∀ {P : Nat → Bool}, P k = true → bsum P k ||| 1 <<< k = bsum P (k + 1) := fun h => bsum_yes h
    have no : ∀ {P : Nat → Bool}, P k = false → bsum P (k + 1) = bsum P k := fun h => bsum_no h
    rcases B.vals k with h | h | h | h | h
    · have e1 : kindsL bl (k + 1) = kindsL bl k := by unfold kindsL; rw [no (by simp [P1, h]), no (by simp [P6, h])]
      have e2 : sidesL bl (k + 1) = sidesL bl k := by unfold sidesL; rw [no (by simp [Q0, h]), no (by simp [Q1, h])]
      have nx' := nx (some (.int k))
      rw [e1, e2] at nx'
      have hz : ((val bl k : Nat) : Int) = 0 := by lia
      simp only [z14, z1q, z1r, z1d, z0p, z1a, z15, z1b, z0a, z09, z1f, z1e, z0o, z0u, z0v, z0s, z0r, z0q, z16, z0l, z17, z18, z1o, z1p, z0t, z0g, z0f, z0d, z0c, z0b, z0e, z0z, z0y, z0x, z0w, z10, z19, z1s, z0h, z0j, z0i, z0k, z1c, z1i, z1j, z1l, z1k, z1m, z1g, z0m, z0n, z07, z06, z05, z04, z08, z11, z1n, z12, z13, z1h, z1t, z3u, z3x, z1x, z1y, z3h, z3i, z3r, z3s, z3j, z3k, z3m, z3o, z3q, z3t, z3n, z2p, z2s, z37, z2k, z24, z25, z30, z2t, z31, z2e, z2d, z3g, z3f, z2m, z2n, z2u, z2j, z2x, z35, z2l, z3a, z38, z2i, z2q, z2y, z36, z40, z41, z3y, z45, z42, z43, z3b, z3c, z47, z1w, z3d, z46, yy0, yy1, yy2, yy3, yy4, yy5, z00, z02, z01, z03, z1v, z1u, z1z, z22, z20, z21, z2a, z28, z29, z27, z26, z2b, theGlobs, yy8, yy9, yy6, ne_eq, yy7, Nat.reduceAdd, Nat.reduceLT, if_true, posBody, eb, hz, not_true_eq_false, if_false]
      exact nx'
    · refine step 1 0 _ _ _ _ (by rw [h]) (by rw [h]) rfl rfl rfl rfl (by lia) ?_ ?_
      · unfold kindsL; rw [yes (P := P1 bl) (by simp [P1, h]), no (P := P6 bl) (by simp [P6, h])]; rfl
      · unfold sidesL; rw [yes (P := Q0 bl) (by simp [Q0, h]), no (P := Q1 bl) (by simp [Q1, h])]; rfl
    · refine step 6 0 _ _ _ _ (by rw [h]) (by rw [h]) rfl rfl rfl rfl (by lia) ?_ ?_
      · unfold kindsL; rw [no (P := P1 bl) (by simp [P1, h]), yes (P := P6 bl) (by simp [P6, h])]; rfl
      · unfold sidesL; rw [yes (P := Q0 bl) (by simp [Q0, h]), no (P := Q1 bl) (by simp [Q1, h])]; rfl
    · refine step 1 1 _ _ _ _ (by rw [h]) (by rw [h]) rfl rfl rfl rfl (by lia) ?_ ?_
      · unfold kindsL; rw [yes (P := P1 bl) (by simp [P1, h]), no (P := P6 bl) (by simp [P6, h])]; rfl
      · unfold sidesL; rw [no (P := Q0 bl) (by simp [Q0, h]), yes (P := Q1 bl) (by simp [Q1, h])]; rfl
    · refine step 6 1 _ _ _ _ (by rw [h]) (by rw [h]) rfl rfl rfl rfl (by lia) ?_ ?_
      · unfold kindsL; rw [no (P := P1 bl) (by simp [P1, h]), yes (P := P6 bl) (by simp [P6, h])]; rfl
      · unfold sidesL; rw [no (P := Q0 bl) (by simp [Q0, h]), yes (P := Q1 bl) (by simp [Q1, h])]; rfl
noncomputable def kp (F R : Nat) (bl : List Nat) : Nat := bsum (P1 bl) (F * R)
noncomputable def sds (F R : Nat) (bl : List Nat) (sd : Int) : Nat := if sd = 0 then bsum (Q0 bl) (F * R) else bsum (Q1 bl) (F * R)
theorem ev_law_position {bl : List Nat} (S : Shape F R) (B : Brd F R bl) {bd : Nat} (g : Geo X l F R) (hb : X[bd]? = some (.list (pints bl))) : ∃ E, run (n+2) 33 [.loc l, .loc bd] X = some (.loc X.length, X ++ E) ∧ PosAt (X ++ E) X.length l (kp F R bl) (sds F R bl) := by
  refine ⟨pm X.length l bd (.list (List.replicate (F * R) (.int 0))) (pints (kindsL bl (F * R))) (pints (sidesL bl (F * R))), ?_, ?_⟩
  · refine wpO_eq (wp_run (d := d_law_position) rfl rfl ?_)
    show wpSs (n+1) d_law_position.body [some (.loc l), some (.loc bd), none, none] X _
    have hsz := S.sz
    have hc : callB (run (n+1)) inits (.cls 2) [.loc l, .none] X = some (.loc X.length, X ++ .inst 2 (posFs X.length l (X.length + 2)) :: [.list [.int 0], .list (List.replicate (F * R) (.int 0)), .list [.int 0], .list (List.replicate 7 (.int 0)), .list [.int 0, .int 0], .list []]) := by
      show ob (run (n+1) 27 [.loc X.length, .loc l, .none] (X ++ .inst 2 [] :: [])) _ = _
      rw [ev_Position S g]; rfl
    have ep : putF 26 (.loc bd) (posFs X.length l (X.length + 2)) = posFs X.length l bd := rfl
    have hi : ∀ E : AH, items (X ++ E) (.loc bd) = some (pints bl) := fun E => by simp only [items, pre_get (List.prefix_append X E) hb]
    have el : ∀ E : AH, callB (run (n+1)) inits .len [.loc bd] (X ++ E) = some (.int (F * R : Nat), X ++ E) := fun E => by
      rw [cb_len' (hi E) (by rw [pints_len, B.len]; lia), pints_len, B.len]
    simp only [d_law_position, z14, z1q, z1r, z1d, z0p, z1a, z15, z1b, z0a, z09, z1f, z1e, z0o, z0u, z0v, z0s, z0r, z0q, z16, z0l, z17, z18, z1o, z1p, z0t, z0g, z0f, z0d, z0c, z0b, z0e, z0z, z0y, z0x, z0w, z10, z19, z1s, z0h, z0j, z0i, z0k, z1c, z1i, z1j, z1l, z1k, z1m, z1g, z0m, z0n, z07, z06, z05, z04, z08, z11, z1n, z12, z13, z1h, z1t, z3x, z1x, z1y, z3h, z3i, z3r, z3s, z3j, z3k, z3m, z3o, z3q, z3t, z3n, z2p, z2s, z37, z2k, z24, z25, z30, z2t, z31, z2e, z2d, z3g, z3f, z2m, z2n, z2u, z2j, z2x, z35, z2l, z3a, z38, z2i, z2q, z2y, z36, z40, z41, z3y, z45, z42, z43, z3b, z3c, z47, z1w, z3d, z46, yy0, yy1, yy2, yy3, yy4, yy5, z00, z02, z01, z03, z1v, z1u, z1z, z22, z20, z21, z2a, z28, z29, z27, z26, z2b, theGlobs, yy8, yy9, yy6, ne_eq, yy7, Nat.reduceAdd, Nat.reduceLT, if_true]
    rw [z3u]
    simp only [z14, z1q, z1r, z1d, z0p, z1a, z15, z1b, z0a, z09, z1f, z1e, z0o, z0u, z0v, z0s, z0r, z0q, z16, z0l, z17, z18, z1o, z1p, z0t, z0g, z0f, z0d, z0c, z0b, z0e, z0z, z0y, z0x, z0w, z10, z19, z1s, z0h, z0j, z0i, z0k, z1c, z1i, z1j, z1l, z1k, z1m, z1g, z0m, z0n, z07, z06, z05, z04, z08, z11, z1n, z12, z13, z1h, z1t, z3x, z1x, z1y, z3h, z3i, z3r, z3s, z3j, z3k, z3m, z3o, z3q, z3t, z3n, z2p, z2s, z37, z2k, z24, z25, z30, z2t, z31, z2e, z2d, z3g, z3f, z2m, z2n, z2u, z2j, z2x, z35, z2l, z3a, z38, z2i, z2q, z2y, z36, z40, z41, z3y, z45, z42, z43, z3b, z3c, z47, z1w, z3d, z46, yy0, yy1, yy2, yy3, yy4, yy5, z00, z02, z01, z03, z1v, z1u, z1z, z22, z20, z21, z2a, z28, z29, z27, z26, z2b, theGlobs, yy8, yy9, yy6, ne_eq, yy7, Nat.reduceAdd, Nat.reduceLT, if_true, hc]
    rw [z3u]
    simp only [z14, z1q, z1r, z1d, z0p, z1a, z15, z1b, z0a, z09, z1f, z1e, z0o, z0u, z0v, z0s, z0r, z0q, z16, z0l, z17, z18, z1o, z1p, z0t, z0g, z0f, z0d, z0c, z0b, z0e, z0z, z0y, z0x, z0w, z10, z19, z1s, z0h, z0j, z0i, z0k, z1c, z1i, z1j, z1l, z1k, z1m, z1g, z0m, z0n, z07, z06, z05, z04, z08, z11, z1n, z12, z13, z1h, z1t, z3x, z1x, z1y, z3h, z3i, z3r, z3s, z3j, z3k, z3m, z3o, z3q, z3t, z3n, z2p, z2s, z37, z2k, z24, z25, z30, z2t, z31, z2e, z2d, z3g, z3f, z2m, z2n, z2u, z2j, z2x, z35, z2l, z3a, z38, z2i, z2q, z2y, z36, z40, z41, z3y, z45, z42, z43, z3b, z3c, z47, z1w, z3d, z46, yy0, yy1, yy2, yy3, yy4, yy5, z00, z02, z01, z03, z1v, z1u, z1z, z22, z20, z21, z2a, z28, z29, z27, z26, z2b, theGlobs, yy8, yy9, yy6, ne_eq, yy7, Nat.reduceAdd, Nat.reduceLT, if_true]
    rw [vset_mid (by simp [posFs]), z47, ep, z1c, z1x, z3u]
    simp only [z14, z1q, z1r, z1d, z0p, z1a, z15, z1b, z0a, z09, z1f, z1e, z0o, z0u, z0v, z0s, z0r, z0q, z16, z0l, z17, z18, z1o, z1p, z0t, z0g, z0f, z0d, z0c, z0b, z0e, z0z, z0y, z0x, z0w, z10, z19, z1s, z0h, z0j, z0i, z0k, z1c, z1i, z1j, z1l, z1k, z1m, z1g, z0m, z0n, z07, z06, z05, z04, z08, z11, z1n, z12, z13, z1h, z1t, z3x, z1x, z1y, z3h, z3i, z3r, z3s, z3j, z3k, z3m, z3o, z3q, z3t, z3n, z2p, z2s, z37, z2k, z24, z25, z30, z2t, z31, z2e, z2d, z3g, z3f, z2m, z2n, z2u, z2j, z2x, z35, z2l, z3a, z38, z2i, z2q, z2y, z36, z40, z41, z3y, z45, z42, z43, z3b, z3c, z47, z1w, z3d, z46, yy0, yy1, yy2, yy3, yy4, yy5, z00, z02, z01, z03, z1v, z1u, z1z, z22, z20, z21, z2a, z28, z29, z27, z26, z2b, theGlobs, yy8, yy9, yy6, ne_eq, yy7, Nat.reduceAdd, Nat.reduceLT, if_true, el, cb_range1 hsz, src_range1 hsz, rngList_len]
    refine ⟨by lia, ?_⟩
    refine pos_loop (k := 0) (l := l) (o2 := .list (List.replicate (F * R) (.int 0))) S B hb (F * R) _ (by lia) fun v3 => ?_
    simp only [z14, z1q, z1r, z1d, z0p, z1a, z15, z1b, z0a, z09, z1f, z1e, z0o, z0u, z0v, z0s, z0r, z0q, z16, z0l, z17, z18, z1o, z1p, z0t, z0g, z0f, z0d, z0c, z0b, z0e, z0z, z0y, z0x, z0w, z10, z19, z1s, z0h, z0j, z0i, z0k, z1c, z1i, z1j, z1l, z1k, z1m, z1g, z0m, z0n, z07, z06, z05, z04, z08, z11, z1n, z12, z13, z1h, z1t, z3x, z1x, z1y, z3h, z3i, z3r, z3s, z3j, z3k, z3m, z3o, z3q, z3t, z3n, z2p, z2s, z37, z2k, z24, z25, z30, z2t, z31, z2e, z2d, z3g, z3f, z2m, z2n, z2u, z2j, z2x, z35, z2l, z3a, z38, z2i, z2q, z2y, z36, z40, z41, z3y, z45, z42, z43, z3b, z3c, z47, z1w, z3d, z46, yy0, yy1, yy2, yy3, yy4, yy5, z00, z02, z01, z03, z1v, z1u, z1z, z22, z20, z21, z2a, z28, z29, z27, z26, z2b, theGlobs, yy8, yy9, yy6, ne_eq, yy7, Nat.reduceAdd, Nat.reduceLT, if_true]
    rw [z3u]
    simp only [z14, z1q, z1r, z1d, z0p, z1a, z15, z1b, z0a, z09, z1f, z1e, z0o, z0u, z0v, z0s, z0r, z0q, z16, z0l, z17, z18, z1o, z1p, z0t, z0g, z0f, z0d, z0c, z0b, z0e, z0z, z0y, z0x, z0w, z10, z19, z1s, z0h, z0j, z0i, z0k, z1c, z1i, z1j, z1l, z1k, z1m, z1g, z0m, z0n, z07, z06, z05, z04, z08, z11, z1n, z12, z13, z1h, z1t, z3x, z1x, z1y, z3h, z3i, z3r, z3s, z3j, z3k, z3m, z3o, z3q, z3t, z3n, z2p, z2s, z37, z2k, z24, z25, z30, z2t, z31, z2e, z2d, z3g, z3f, z2m, z2n, z2u, z2j, z2x, z35, z2l, z3a, z38, z2i, z2q, z2y, z36, z40, z41, z3y, z45, z42, z43, z3b, z3c, z47, z1w, z3d, z46, yy0, yy1, yy2, yy3, yy4, yy5, z00, z02, z01, z03, z1v, z1u, z1z, z22, z20, z21, z2a, z28, z29, z27, z26, z2b, theGlobs, yy8, yy9, yy6, ne_eq, yy7, Nat.reduceAdd, Nat.reduceLT, if_true]
    unfold pm
    rw [callK_inst]
    exact ⟨rfl, rfl⟩
  · have t0 : ∀ o ks ss, (X ++ pm X.length l bd o ks ss)[X.length]? = some (.inst 2 (posFs X.length l bd)) := fun o ks ss => by simp [pm]
    have t4 : ∀ o ks ss, (X ++ pm X.length l bd o ks ss)[X.length + 4]? = some (.list ks) := fun o ks ss => by simp [pm]
    have t5 : ∀ o ks ss, (X ++ pm X.length l bd o ks ss)[X.length + 5]? = some (.list ss) := fun o ks ss => by simp [pm]
    refine ⟨attr_of (t0 _ _ _) rfl, ⟨X.length + 4, attr_of (t0 _ _ _) rfl, item_of (k := 1) (t4 _ _ _) rfl (by decide)⟩, X.length + 5, attr_of (t0 _ _ _) rfl, item_of (k := 0) (t5 _ _ _) rfl (by decide), item_of (k := 1) (t5 _ _ _) rfl (by decide)⟩
end
end Mine
end

section
set_option linter.unusedSimpArgs false
set_option maxRecDepth 100000
namespace Mine
open PySem.Builtin

noncomputable def crd (F R : Nat) (sd : Int) (s : Nat) : Int × Int := (((s % F : Nat) : Int), rk F R sd s)
noncomputable def plcK (F R : Nat) (bl : List Nat) (sd : Int) (c k : Nat) : List (Int × Int) := ((List.range k).filter fun s => decide (val bl s = 1 + 8 * c)).map (crd F R sd)
noncomputable def plc (F R : Nat) (bl : List Nat) (sd : Int) (c : Nat) : List (Int × Int) := plcK F R bl sd c (F * R)
noncomputable def ownN (F R : Nat) (bl : List Nat) (sd : Int) : Nat := kp F R bl &&& sds F R bl sd
noncomputable def fxOf (F R : Nat) (bl : List Nat) (sd : Int) : Fx := factsOf F R (ownN F R bl sd) (ownN F R bl (1 - sd)) sd
noncomputable def toldX (x : Fx) : List Int := [x.own, x.attacks, x.span, x.isolated, x.doubled, x.backward, x.connected, x.opposed, x.passed, x.candidates].map fun n : Nat => (n : Int)
noncomputable def told (F R : Nat) (bl : List Nat) (sd : Int) : List Int := toldX (fxOf F R bl sd) ++ [((sq 64 (ownN F R bl sd) 0).map (opS F R (fxOf F R bl sd) sd)).sum]
noncomputable def MathOK : Prop := ∀ (F R : Nat) (bl : List Nat) (c : Nat), Shape F R → Brd F R bl → c ≤ 1 → told F R bl c = seenL F R c (plc F R bl c c) (plc F R bl c (1 - c))

theorem plcK_succ {F R : Nat} {bl : List Nat} {sd : Int} {c k : Nat} : plcK F R bl sd c (k + 1) = if val bl k = 1 + 8 * c then plcK F R bl sd c k ++ [crd F R sd k] else plcK F R bl sd c k := by
  unfold plcK
  rw [List.range_succ, List.filter_append, List.map_append]
  by_cases h : val bl k = 1 + 8 * c
  · rw [if_pos h, List.filter_cons, if_pos (by simpa using h)]; rfl
  · rw [if_neg h, List.filter_cons, if_neg (by simpa using h)]; simp
theorem plcK_len {F R : Nat} {bl : List Nat} {sd : Int} {c k : Nat} : (plcK F R bl sd c k).length ≤ k := by
  unfold plcK
  rw [List.length_map]
  have := List.length_filter_le (fun s => decide (val bl s = 1 + 8 * c)) (List.range k)
  rw [List.length_range] at this; exact this
theorem plc_onB {F R : Nat} {bl : List Nat} {sd : Int} {c : Nat} (S : Shape F R) (_ : sd = 0 ∨ sd = 1) : ∀ p ∈ plc F R bl sd c, OnB F R p := by
  intro p hp
  obtain ⟨s, h1, rfl⟩ := List.mem_map.mp hp
  obtain ⟨h2, _⟩ := List.mem_filter.mp h1
  rw [List.mem_range] at h2
  have h3 := rk_range (sd := sd) S h2
  have h4 := Nat.mod_lt s (show 0 < F by have := S.f2; lia)
  unfold OnB crd
  dsimp only
  lia
section
variable {n F R : Nat} {X : AH}
noncomputable abbrev placeBody : Sts := .cons (.assign 10 (.ite (.cmp .eq (.var 7) (.const (.int 0))) (.bin .fdiv (.var 9) (.var 2)) (.bin .sub (.bin .sub (.var 3) (.const (.int 1))) (.bin .fdiv (.var 9) (.var 2)))))
 (.cons (.ite (.cmp .eq (.bin .mod (.item (.var 4) (.var 9)) (.const (.int 8))) (.const (.int 1))) (.cons (.expr (.append (.item (.var 8) (.bin .fdiv (.item (.var 4) (.var 9)) (.const (.int 8)))) (.tuple (.cons (.bin .mod (.var 9) (.var 2)) (.cons (.var 10) .nil))))) .nil) .nil)
 .nil)
noncomputable def ph (b : Nat) (A0 A1 : List (Int × Int)) : AH := [.list (pvs A0), .list (pvs A1), .list [.loc b, .loc (b + 1)]]
theorem place_loop {bl : List Nat} (S : Shape F R) (B : Brd F R bl) {bd : Nat} (hb : X[bd]? = some (.list (pints bl))) {sd : Int} {Q : Flw → Vars → AH → Prop} {x y z : Int} {vs0 : List PV} {v0 v1 v5 v6 v11 v12 : Option PV} : ∀ (m k : Nat) (v9 v10 : Option PV), k + m = F * R →
    (∀ v9 v10, Q .next [v0, v1, some (.int F), some (.int R), some (.loc bd), v5, v6, some (.int sd), some (.loc (X.length + 2)), v9, v10, v11, v12] (X ++ ph X.length (plc F R bl sd 0) (plc F R bl sd 1))) →
    wpF n (.rng x y z) vs0 [9] placeBody (rngList (k : Int) 1 m) [v0, v1, some (.int F), some (.int R), some (.loc bd), v5, v6, some (.int sd), some (.loc (X.length + 2)), v9, v10, v11, v12] (X ++ ph X.length (plcK F R bl sd 0 k) (plcK F R bl sd 1 k)) Q
  | 0, k, v9, v10, hk, q => by
    rw [Nat.add_zero] at hk
    rw [rngList, hk]; refine wpF_nil ?_
    exact ⟨rfl, q _ _⟩
  | m + 1, k, v9, v10, hk, q => by
    have nx := fun v9 v10 => place_loop S B hb (Q := Q) (x := x) (y := y) (z := z) (vs0 := vs0) (v0 := v0) (v1 := v1) (v5 := v5) (v6 := v6) (v11 := v11) (v12 := v12) m (k + 1) v9 v10 (by lia) q
    have hsz := S.sz; have hF := S.f2; have hF8 := S.f8
    have hkl : k < bl.length := by rw [B.len]; lia
    rw [rng_cons]; refine wpF_cons ?_
    refine ⟨rfl, ?_⟩
    have hv : bl[k]'hkl = val bl k := by simp [val, hkl]
    have eb : ∀ E : AH, vGetItem (X ++ E) (.loc bd) (.int k) = some (.int (val bl k : Nat)) := fun E => by
      rw [← hv]; exact item_of (pre_get (List.prefix_append X E) hb) (pints_get hkl) (by lia)
    have t0 : ∀ a b, (X ++ ph X.length a b)[X.length]? = some (.list (pvs a)) := fun a b => by simp [ph]
    have t1 : ∀ a b, (X ++ ph X.length a b)[X.length + 1]? = some (.list (pvs b)) := fun a b => by simp [ph]
    have t2 : ∀ a b, (X ++ ph X.length a b)[X.length + 2]? = some (.list [.loc X.length, .loc (X.length + 1)]) := fun a b => by simp [ph]
    have s0 : ∀ a b a', (X ++ ph X.length a b).set X.length (.list (pvs a')) = X ++ ph X.length a' b := fun a b a' => by simp [ph]
    have s1 : ∀ a b b', (X ++ ph X.length a b).set (X.length + 1) (.list (pvs b')) = X ++ ph X.length a b' := fun a b b' => by simp [ph]
    have m8 : ((!decide ((8 : Int) = 0)) && decide ((8 : Int).natAbs < 1073741824)) = true := rfl
    have mF : ((!decide ((F : Int) = 0)) && decide ((F : Int).natAbs < 1073741824)) = true := by
      rw [Bool.and_eq_true, Bool.not_eq_true', decide_eq_false_iff_not, yy6]; lia
    have f8 : ∀ a : Nat, ((a : Nat) : Int).fmod 8 = ((a % 8 : Nat) : Int) := fun a => fmodN a 8
    have d8 : ∀ a : Nat, ((a : Nat) : Int).fdiv 8 = ((a / 8 : Nat) : Int) := fun a => fdivN a 8
    have l0 : (pvs (plcK F R bl sd 0 k)).length ≤ 1000 := by rw [pvs, List.length_map]; have := plcK_len (F := F) (R := R) (bl := bl) (sd := sd) (c := 0) (k := k); lia
    have l1 : (pvs (plcK F R bl sd 1 k)).length ≤ 1000 := by rw [pvs, List.length_map]; have := plcK_len (F := F) (R := R) (bl := bl) (sd := sd) (c := 1) (k := k); lia
    have ea : ∀ A : List (Int × Int), pvs A ++ [.tup [.int ((k % F : Nat) : Int), .int (rk F R sd k)]] = pvs (A ++ [crd F R sd k]) := fun A => by simp [pvs, crd]
    simp only [bindT_one, bindT_tup, setAll_cons, setAll_nil, og_t, decide_true, yy0, yy1, yy7, Nat.reduceAdd, Nat.reduceLT, if_true, z47, yy3, yy2]
    have e10 : ∀ (ρ : Vars) (H : AH) (Q : PV → AH → Prop), ρ[7]? = some (some (.int sd)) → ρ[9]? = some (some (.int k)) → ρ[2]? = some (some (.int F)) → ρ[3]? = some (some (.int R)) →
        wpE n ρ (.ite (.cmp .eq (.var 7) (.const (.int 0))) (.bin .fdiv (.var 9) (.var 2)) (.bin .sub (.bin .sub (.var 3) (.const (.int 1))) (.bin .fdiv (.var 9) (.var 2)))) H Q = Q (.int (rk F R sd k)) H := by
      intro ρ H Q h7 h9 h2 h3
      simp only [z14, z1q, z1r, z1d, z0p, z1a, z15, z1b, z0a, z09, z1f, z1e, z0o, z0u, z0v, z0s, z0r, z0q, z16, z0l, z17, z18, z1o, z1p, z0t, z0g, z0f, z0d, z0c, z0b, z0e, z0z, z0y, z0x, z0w, z10, z19, z1s, z0h, z0j, z0i, z0k, z1c, z1i, z1j, z1l, z1k, z1m, z1g, z0m, z0n, z07, z06, z05, z04, z08, z11, z1n, z12, z13, z1h, z1t, z3u, z3x, z1x, z1y, z3h, z3i, z3r, z3s, z3j, z3k, z3m, z3o, z3q, z3t, z3n, z2p, z2s, z37, z2k, z24, z25, z30, z2t, z31, z2e, z2d, z3g, z3f, z2m, z2n, z2u, z2j, z2x, z35, z2l, z3a, z38, z2i, z2q, z2y, z36, z40, z41, z3y, z45, z42, z43, z3b, z3c, z47, z1w, z3d, z46, yy0, yy1, yy2, yy3, yy4, yy5, z00, z02, z01, z03, z1v, z1u, z1z, z22, z20, z21, z2a, z28, z29, z27, z26, z2b, theGlobs, yy8, yy9, yy6, ne_eq, yy7, Nat.reduceAdd, Nat.reduceLT, if_true, h7, h9, h2, h3, wb_fdiv, mF, fdivN]
      unfold rk
      by_cases h : sd = 0
      · rw [if_pos h, if_pos h]
      · rw [if_neg h, if_neg h]
    rw [z3u, z3h, e10 _ _ _ rfl rfl rfl rfl]
    simp only [z14, z1q, z1r, z1d, z0p, z1a, z15, z1b, z0a, z09, z1f, z1e, z0o, z0u, z0v, z0s, z0r, z0q, z16, z0l, z17, z18, z1o, z1p, z0t, z0g, z0f, z0d, z0c, z0b, z0e, z0z, z0y, z0x, z0w, z10, z19, z1s, z0h, z0j, z0i, z0k, z1c, z1i, z1j, z1l, z1k, z1m, z1g, z0m, z0n, z07, z06, z05, z04, z08, z11, z1n, z12, z13, z1h, z1t, z3x, z1x, z1y, z3h, z3i, z3r, z3s, z3j, z3k, z3m, z3o, z3q, z3t, z3n, z2p, z2s, z37, z2k, z24, z25, z30, z2t, z31, z2e, z2d, z3g, z3f, z2m, z2n, z2u, z2j, z2x, z35, z2l, z3a, z38, z2i, z2q, z2y, z36, z40, z41, z3y, z45, z42, z43, z3b, z3c, z47, z1w, z3d, z46, yy0, yy1, yy2, yy3, yy4, yy5, z00, z02, z01, z03, z1v, z1u, z1z, z22, z20, z21, z2a, z28, z29, z27, z26, z2b, theGlobs, yy8, yy9, yy6, ne_eq, yy7, Nat.reduceAdd, Nat.reduceLT, if_true]
    rw [z3u]
    simp only [z14, z1q, z1r, z1d, z0p, z1a, z15, z1b, z0a, z09, z1f, z1e, z0o, z0u, z0v, z0s, z0r, z0q, z16, z0l, z17, z18, z1o, z1p, z0t, z0g, z0f, z0d, z0c, z0b, z0e, z0z, z0y, z0x, z0w, z10, z19, z1s, z0h, z0j, z0i, z0k, z1c, z1i, z1j, z1l, z1k, z1m, z1g, z0m, z0n, z07, z06, z05, z04, z08, z11, z1n, z12, z13, z1h, z1t, z3u, z3x, z1x, z1y, z3h, z3i, z3r, z3s, z3j, z3k, z3m, z3o, z3q, z3t, z3n, z2p, z2s, z37, z2k, z24, z25, z30, z2t, z31, z2e, z2d, z3g, z3f, z2m, z2n, z2u, z2j, z2x, z35, z2l, z3a, z38, z2i, z2q, z2y, z36, z40, z41, z3y, z45, z42, z43, z3b, z3c, z47, z1w, z3d, z46, yy0, yy1, yy2, yy3, yy4, yy5, z00, z02, z01, z03, z1v, z1u, z1z, z22, z20, z21, z2a, z28, z29, z27, z26, z2b, theGlobs, yy8, yy9, yy6, ne_eq, yy7, Nat.reduceAdd, Nat.reduceLT, if_true, eb, wb_mod, wb_fdiv, m8, f8]
    by_cases h1 : val bl k = 1
    · have q0 : plcK F R bl sd 0 (k + 1) = plcK F R bl sd 0 k ++ [crd F R sd k] := by rw [plcK_succ, if_pos (by lia)]
      have q1 : plcK F R bl sd 1 (k + 1) = plcK F R bl sd 1 k := by rw [plcK_succ, if_neg (by lia)]
      rw [if_pos (by rw [h1]; rfl)]
      have i2 : vGetItem (X ++ ph X.length (plcK F R bl sd 0 k) (plcK F R bl sd 1 k)) (.loc (X.length + 2)) (.int ((0 : Nat) : Int)) = some (.loc X.length) := item_of (t2 _ _) rfl (by decide)
      rw [q0, q1] at nx
      simp only [d8, h1, Nat.reduceDiv, i2, wpL_loc (t0 _ _), mF, fmodN, wb_mod, wb_fdiv, m8, f8, eb, z14, z1q, z1r, z1d, z0p, z1a, z15, z1b, z0a, z09, z1f, z1e, z0o, z0u, z0v, z0s, z0r, z0q, z16, z0l, z17, z18, z1o, z1p, z0t, z0g, z0f, z0d, z0c, z0b, z0e, z0z, z0y, z0x, z0w, z10, z19, z1s, z0h, z0j, z0i, z0k, z1c, z1i, z1j, z1l, z1k, z1m, z1g, z0m, z0n, z07, z06, z05, z04, z08, z11, z1n, z12, z13, z1h, z1t, z3u, z3x, z1x, z1y, z3h, z3i, z3r, z3s, z3j, z3k, z3m, z3o, z3q, z3t, z3n, z2p, z2s, z37, z2k, z24, z25, z30, z2t, z31, z2e, z2d, z3g, z3f, z2m, z2n, z2u, z2j, z2x, z35, z2l, z3a, z38, z2i, z2q, z2y, z36, z40, z41, z3y, z45, z42, z43, z3b, z3c, z47, z1w, z3d, z46, yy0, yy1, yy2, yy3, yy4, yy5, z00, z02, z01, z03, z1v, z1u, z1z, z22, z20, z21, z2a, z28, z29, z27, z26, z2b, theGlobs, yy8, yy9, yy6, ne_eq, yy7, Nat.reduceAdd, Nat.reduceLT, if_true, Nat.reduceLeDiff, l0, ea, s0]
      exact nx _ _
    · by_cases h9 : val bl k = 9
      · have q0 : plcK F R bl sd 0 (k + 1) = plcK F R bl sd 0 k := by rw [plcK_succ, if_neg (by lia)]
        have q1 : plcK F R bl sd 1 (k + 1) = plcK F R bl sd 1 k ++ [crd F R sd k] := by rw [plcK_succ, if_pos (by lia)]
        rw [if_pos (by rw [h9]; rfl)]
        have i2 : vGetItem (X ++ ph X.length (plcK F R bl sd 0 k) (plcK F R bl sd 1 k)) (.loc (X.length + 2)) (.int ((1 : Nat) : Int)) = some (.loc (X.length + 1)) := item_of (t2 _ _) rfl (by decide)
        rw [q0, q1] at nx
        simp only [d8, h9, Nat.reduceDiv, i2, wpL_loc (t1 _ _), mF, fmodN, wb_mod, wb_fdiv, m8, f8, eb, z14, z1q, z1r, z1d, z0p, z1a, z15, z1b, z0a, z09, z1f, z1e, z0o, z0u, z0v, z0s, z0r, z0q, z16, z0l, z17, z18, z1o, z1p, z0t, z0g, z0f, z0d, z0c, z0b, z0e, z0z, z0y, z0x, z0w, z10, z19, z1s, z0h, z0j, z0i, z0k, z1c, z1i, z1j, z1l, z1k, z1m, z1g, z0m, z0n, z07, z06, z05, z04, z08, z11, z1n, z12, z13, z1h, z1t, z3u, z3x, z1x, z1y, z3h, z3i, z3r, z3s, z3j, z3k, z3m, z3o, z3q, z3t, z3n, z2p, z2s, z37, z2k, z24, z25, z30, z2t, z31, z2e, z2d, z3g, z3f, z2m, z2n, z2u, z2j, z2x, z35, z2l, z3a, z38, z2i, z2q, z2y, z36, z40, z41, z3y, z45, z42, z43, z3b, z3c, z47, z1w, z3d, z46, yy0, yy1, yy2, yy3, yy4, yy5, z00, z02, z01, z03, z1v, z1u, z1z, z22, z20, z21, z2a, z28, z29, z27, z26, z2b, theGlobs, yy8, yy9, yy6, ne_eq, yy7, Nat.reduceAdd, Nat.reduceLT, if_true, Nat.reduceLeDiff, l1, ea, s1]
        exact nx _ _
      · have q0 : plcK F R bl sd 0 (k + 1) = plcK F R bl sd 0 k := by rw [plcK_succ, if_neg (by lia)]
        have q1 : plcK F R bl sd 1 (k + 1) = plcK F R bl sd 1 k := by rw [plcK_succ, if_neg (by lia)]
        rw [if_neg (by have := B.vals k; lia)]
        rw [q0, q1] at nx
        exact nx _ _
theorem wc_neL {H : AH} {t : Nat} {a b : List Int} {Q : Bool → Prop} (h : H[t]? = some (.list (ivs a))) (h1 : a.length ≤ 1000) (h2 : b.length ≤ 1000) : wpX (cmpop H .ne (.loc t) (.lst (ivs b))) Q = Q (!decide (a = b)) := by
  have h3 : items H (.loc t) = some (ivs a) := by simp only [items, h]
  show wpX (oo (items H (.loc t)) fun a => oo (items H (.lst (ivs b))) fun b => oo (ints? a) fun a => oo (ints? b) fun b => og (decide (a.length ≤ 1000 ∧ b.length ≤ 1000)) (some (!decide (a = b)))) Q = _
  rw [h3]
  show wpX (oo (ints? (ivs a)) fun a => oo (ints? (ivs b)) _) Q = _
  rw [ints_ivs]
  show wpX (oo (ints? (ivs b)) _) Q = _
  rw [ints_ivs]
  show wpX (og (decide (a.length ≤ 1000 ∧ b.length ≤ 1000)) _) Q = _
  rw [decide_eq_true ⟨h1, h2⟩]; exact z47
end
end Mine
end

section
set_option linter.unusedSimpArgs false
set_option maxRecDepth 100000
namespace Mine
open PySem.Builtin

noncomputable abbrev sideBody : Sts := .cons (.assign 8 (.list (.cons (.list .nil) (.cons (.list .nil) .nil))))
 (.cons (.for [9] (.call .range1 (.cons (.bin .mul (.var 2) (.var 3)) .nil)) placeBody)
 (.cons (.assign 11 (.call (.user 14) (.cons (.var 6) (.cons (.var 7) .nil))))
 (.cons (.assign 12 (.list (.cons (.attr (.var 11) 0) (.cons (.attr (.var 11) 1) (.cons (.attr (.var 11) 2) (.cons (.attr (.var 11) 3) (.cons (.attr (.var 11) 4) (.cons (.attr (.var 11) 5) (.cons (.attr (.var 11) 6) (.cons (.attr (.var 11) 7) (.cons (.attr (.var 11) 8) (.cons (.attr (.var 11) 9) (.cons (.call (.user 17) (.cons (.var 6) (.cons (.var 7) .nil))) .nil)))))))))))))
 (.cons (.ite (.cmp .ne (.var 12) (.call (.user 32) (.cons (.var 2) (.cons (.var 3) (.cons (.var 7) (.cons (.item (.var 8) (.var 7)) (.cons (.item (.var 8) (.bin .sub (.const (.int 1)) (.var 7))) .nil))))))) (.cons (.ret (.const (.bool false))) .nil) .nil)
 .nil))))
theorem kp_lt {F R : Nat} {bl : List Nat} {sd : Int} : ownN F R bl sd < 2 ^ (F * R) := Nat.lt_of_le_of_lt Nat.and_le_left (bsum_lt _ _)
section
variable {n F R : Nat} {X : AH}
theorem side_turn (hm : MathOK) {bl : List Nat} (S : Shape F R) (B : Brd F R bl) {bd p l c : Nat} (hb : X[bd]? = some (.list (pints bl))) (g : Geo X l F R) (P : PosAt X p l (kp F R bl) (sds F R bl)) (hc : c ≤ 1) {Q : Flw → Vars → AH → Prop} {v0 v1 v5 v8 v9 v10 v11 v12 : Option PV}
    (q : ∀ E v8 v9 v10 v11 v12, Q .next [v0, v1, some (.int F), some (.int R), some (.loc bd), v5, some (.loc p), some (.int c), v8, v9, v10, v11, v12] (X ++ E)) :
    wpSs (n+5) sideBody [v0, v1, some (.int F), some (.int R), some (.loc bd), v5, some (.loc p), some (.int c), v8, v9, v10, v11, v12] X Q := by
  have hsz := S.sz; have hF8 := S.f8
  have mF : ∀ y, (small (F : Int) || small y) = true := fun y => by rw [smallF (by lia)]; rfl
  have hs : (c : Int) = 0 ∨ (c : Int) = 1 := by lia
  have hcc : (1 : Int) - (c : Int) = ((1 - c : Nat) : Int) := by lia
  unfold sideBody
  rw [z3u]
  simp only [z14, z1q, z1r, z1d, z0p, z1a, z15, z1b, z0a, z09, z1f, z1e, z0o, z0u, z0v, z0s, z0r, z0q, z16, z0l, z17, z18, z1o, z1p, z0t, z0g, z0f, z0d, z0c, z0b, z0e, z0z, z0y, z0x, z0w, z10, z19, z1s, z0h, z0j, z0i, z0k, z1c, z1i, z1j, z1l, z1k, z1m, z1g, z0m, z0n, z07, z06, z05, z04, z08, z11, z1n, z12, z13, z1h, z1t, z3x, z1x, z1y, z3h, z3i, z3r, z3s, z3j, z3k, z3m, z3o, z3q, z3t, z3n, z2p, z2s, z37, z2k, z24, z25, z30, z2t, z31, z2e, z2d, z3g, z3f, z2m, z2n, z2u, z2j, z2x, z35, z2l, z3a, z38, z2i, z2q, z2y, z36, z40, z41, z3y, z45, z42, z43, z3b, z3c, z47, z1w, z3d, z46, yy0, yy1, yy2, yy3, yy4, yy5, z00, z02, z01, z03, z1v, z1u, z1z, z22, z20, z21, z2a, z28, z29, z27, z26, z2b, theGlobs, yy8, yy9, yy6, ne_eq, yy7, Nat.reduceAdd, Nat.reduceLT, if_true, Nat.reduceLeDiff, List.append_assoc, List.cons_append, List.nil_append, List.length_append]
  rw [z3u]
  simp only [z14, z1q, z1r, z1d, z0p, z1a, z15, z1b, z0a, z09, z1f, z1e, z0o, z0u, z0v, z0s, z0r, z0q, z16, z0l, z17, z18, z1o, z1p, z0t, z0g, z0f, z0d, z0c, z0b, z0e, z0z, z0y, z0x, z0w, z10, z19, z1s, z0h, z0j, z0i, z0k, z1c, z1i, z1j, z1l, z1k, z1m, z1g, z0m, z0n, z07, z06, z05, z04, z08, z11, z1n, z12, z13, z1h, z1t, z3x, z1x, z1y, z3h, z3i, z3r, z3s, z3j, z3k, z3m, z3o, z3q, z3t, z3n, z2p, z2s, z37, z2k, z24, z25, z30, z2t, z31, z2e, z2d, z3g, z3f, z2m, z2n, z2u, z2j, z2x, z35, z2l, z3a, z38, z2i, z2q, z2y, z36, z40, z41, z3y, z45, z42, z43, z3b, z3c, z47, z1w, z3d, z46, yy0, yy1, yy2, yy3, yy4, yy5, z00, z02, z01, z03, z1v, z1u, z1z, z22, z20, z21, z2a, z28, z29, z27, z26, z2b, theGlobs, yy8, yy9, yy6, ne_eq, yy7, Nat.reduceAdd, Nat.reduceLT, if_true, wb_mul, mF, ← Int.natCast_mul, cb_range1 hsz, src_range1 hsz, rngList_len]
  refine ⟨by lia, ?_⟩
  refine place_loop (k := 0) S B hb (F * R) _ _ (by lia) fun v9 v10 => ?_
  generalize hL0 : plc F R bl c 0 = L0
  generalize hL1 : plc F R bl c 1 = L1
  have hp1 : X <+: X ++ ph X.length L0 L1 := List.prefix_append _ _
  have hg1 := g.pre hp1
  have hP1 := P.pre hp1
  have t0 : (X ++ ph X.length L0 L1)[X.length]? = some (.list (pvs L0)) := by simp [ph]
  have t1 : (X ++ ph X.length L0 L1)[X.length + 1]? = some (.list (pvs L1)) := by simp [ph]
  have t2 : (X ++ ph X.length L0 L1)[X.length + 2]? = some (.list [.loc X.length, .loc (X.length + 1)]) := by simp [ph]
  generalize hY : X ++ ph X.length L0 L1 = Y at *
  have o1 : ownN F R bl c < 2 ^ (F * R) := kp_lt
  have o2 : ownN F R bl (1 - (c : Int)) < 2 ^ (F * R) := kp_lt
  have f1 := ev_pawn_facts (n := n+1) (sd := c) hg1 S hP1 hs rfl rfl o1 o2
  have hp2 : Y <+: Y ++ [.inst 0 (fxOf F R bl c).fs, .dead] := List.prefix_append _ _
  have f2 := ev_pawn_score (n := n) (sd := c) (hg1.pre hp2) S (hP1.pre hp2) hs rfl rfl o1 o2
  obtain ⟨y0, y1, y2, y3, y4, y5, y6, y7, y8, y9⟩ := vg (H := Y) (E := [.dead]) (x := fxOf F R bl c)
  simp only [z1x]
  rw [z3u]
  simp only [z14, z1q, z1r, z1d, z0p, z1a, z15, z1b, z0a, z09, z1f, z1e, z0o, z0u, z0v, z0s, z0r, z0q, z16, z0l, z17, z18, z1o, z1p, z0t, z0g, z0f, z0d, z0c, z0b, z0e, z0z, z0y, z0x, z0w, z10, z19, z1s, z0h, z0j, z0i, z0k, z1c, z1i, z1j, z1l, z1k, z1m, z1g, z0m, z0n, z07, z06, z05, z04, z08, z11, z1n, z12, z13, z1h, z1t, z3x, z1x, z1y, z3h, z3i, z3r, z3s, z3j, z3k, z3m, z3o, z3q, z3t, z3n, z2p, z2s, z37, z2k, z24, z25, z30, z2t, z31, z2e, z2d, z3g, z3f, z2m, z2n, z2u, z2j, z2x, z35, z2l, z3a, z38, z2i, z2q, z2y, z36, z40, z41, z3y, z45, z42, z43, z3b, z3c, z47, z1w, z3d, z46, yy0, yy1, yy2, yy3, yy4, yy5, z00, z02, z01, z03, z1v, z1u, z1z, z22, z20, z21, z2a, z28, z29, z27, z26, z2b, theGlobs, yy8, yy9, yy6, ne_eq, yy7, Nat.reduceAdd, Nat.reduceLT, if_true, f1]
  rw [z3u]
  unfold fxOf at y0 y1 y2 y3 y4 y5 y6 y7 y8 y9 f2
  unfold ownN at y0 y1 y2 y3 y4 y5 y6 y7 y8 y9 f2
  simp only [z14, z1q, z1r, z1d, z0p, z1a, z15, z1b, z0a, z09, z1f, z1e, z0o, z0u, z0v, z0s, z0r, z0q, z16, z0l, z17, z18, z1o, z1p, z0t, z0g, z0f, z0d, z0c, z0b, z0e, z0z, z0y, z0x, z0w, z10, z19, z1s, z0h, z0j, z0i, z0k, z1c, z1i, z1j, z1l, z1k, z1m, z1g, z0m, z0n, z07, z06, z05, z04, z08, z11, z1n, z12, z13, z1h, z1t, z3x, z1x, z1y, z3h, z3i, z3r, z3s, z3j, z3k, z3m, z3o, z3q, z3t, z3n, z2p, z2s, z37, z2k, z24, z25, z30, z2t, z31, z2e, z2d, z3g, z3f, z2m, z2n, z2u, z2j, z2x, z35, z2l, z3a, z38, z2i, z2q, z2y, z36, z40, z41, z3y, z45, z42, z43, z3b, z3c, z47, z1w, z3d, z46, yy0, yy1, yy2, yy3, yy4, yy5, z00, z02, z01, z03, z1v, z1u, z1z, z22, z20, z21, z2a, z28, z29, z27, z26, z2b, theGlobs, yy8, yy9, yy6, ne_eq, yy7, Nat.reduceAdd, Nat.reduceLT, if_true, y0, y1, y2, y3, y4, y5, y6, y7, y8, y9, f2, Nat.reduceLeDiff]
  have et : [PV.int (factsOf F R (kp F R bl &&& sds F R bl c) (kp F R bl &&& sds F R bl (1 - (c : Int))) c).own, PV.int (factsOf F R (kp F R bl &&& sds F R bl c) (kp F R bl &&& sds F R bl (1 - (c : Int))) c).attacks, PV.int (factsOf F R (kp F R bl &&& sds F R bl c) (kp F R bl &&& sds F R bl (1 - (c : Int))) c).span,
      PV.int (factsOf F R (kp F R bl &&& sds F R bl c) (kp F R bl &&& sds F R bl (1 - (c : Int))) c).isolated, PV.int (factsOf F R (kp F R bl &&& sds F R bl c) (kp F R bl &&& sds F R bl (1 - (c : Int))) c).doubled, PV.int (factsOf F R (kp F R bl &&& sds F R bl c) (kp F R bl &&& sds F R bl (1 - (c : Int))) c).backward,
      PV.int (factsOf F R (kp F R bl &&& sds F R bl c) (kp F R bl &&& sds F R bl (1 - (c : Int))) c).connected, PV.int (factsOf F R (kp F R bl &&& sds F R bl c) (kp F R bl &&& sds F R bl (1 - (c : Int))) c).opposed, PV.int (factsOf F R (kp F R bl &&& sds F R bl c) (kp F R bl &&& sds F R bl (1 - (c : Int))) c).passed,
      PV.int (factsOf F R (kp F R bl &&& sds F R bl c) (kp F R bl &&& sds F R bl (1 - (c : Int))) c).candidates, PV.int ((sq 64 (kp F R bl &&& sds F R bl c) 0).map (opS F R (factsOf F R (kp F R bl &&& sds F R bl c) (kp F R bl &&& sds F R bl (1 - (c : Int))) c) c)).sum] = ivs (told F R bl c) := rfl
  rw [et]
  have hp3 : Y <+: (Y ++ [.inst 0 (factsOf F R (kp F R bl &&& sds F R bl c) (kp F R bl &&& sds F R bl (1 - (c : Int))) c).fs, .dead]) ++ [.inst 0 (factsOf F R (kp F R bl &&& sds F R bl c) (kp F R bl &&& sds F R bl (1 - (c : Int))) c).fs, .dead, .dead] := by
    rw [List.append_assoc]; exact List.prefix_append _ _
  generalize (Y ++ [.inst 0 (factsOf F R (kp F R bl &&& sds F R bl c) (kp F R bl &&& sds F R bl (1 - (c : Int))) c).fs, .dead]) ++ [.inst 0 (factsOf F R (kp F R bl &&& sds F R bl c) (kp F R bl &&& sds F R bl (1 - (c : Int))) c).fs, .dead, .dead] = Z0 at *
  have hp4 : Y <+: Z0 ++ [.list (ivs (told F R bl c))] := hp3.trans (List.prefix_append _ _)
  have tZ : (Z0 ++ [AObj.list (ivs (told F R bl c))])[Z0.length]? = some (.list (ivs (told F R bl c))) := by simp
  generalize Z0 ++ [.list (ivs (told F R bl c))] = Z at *
  have z0 := pre_get hp4 t0
  have z1 := pre_get hp4 t1
  have z2 := pre_get hp4 t2
  have src : ∀ d : Nat, d ≤ 1 → Src Z (.loc (X.length + d)) (pvs (plc F R bl c d)) := fun d hd => by
    have : d = 0 ∨ d = 1 := by lia
    rcases this with rfl | rfl
    · rw [hL0]; exact Src.loc z0
    · rw [hL1]; exact Src.loc z1
  have itm : ∀ d : Nat, d ≤ 1 → vGetItem Z (.loc (X.length + 2)) (.int d) = some (.loc (X.length + d)) := fun d hd => by
    have : d = 0 ∨ d = 1 := by lia
    rcases this with rfl | rfl
    · exact item_of z2 rfl (by decide)
    · exact item_of z2 rfl (by decide)
  have len64 : ∀ d : Nat, (plc F R bl c d).length ≤ 64 := fun d => Nat.le_trans plcK_len hsz
  obtain ⟨E, hE⟩ := ev_law_seen (n := n+3) (sd := c) S (src c hc) (src (1 - c) (by lia)) (plc_onB S hs) (len64 _) (len64 _)
  have hmm := hm F R bl c S B hc
  have lt : (told F R bl c).length ≤ 1000 := (by decide : 11 ≤ 1000)
  have tE := pre_get (List.prefix_append Z E) tZ
  rw [z3u]
  simp only [z14, z1q, z1r, z1d, z0p, z1a, z15, z1b, z0a, z09, z1f, z1e, z0o, z0u, z0v, z0s, z0r, z0q, z16, z0l, z17, z18, z1o, z1p, z0t, z0g, z0f, z0d, z0c, z0b, z0e, z0z, z0y, z0x, z0w, z10, z19, z1s, z0h, z0j, z0i, z0k, z1c, z1i, z1j, z1l, z1k, z1m, z1g, z0m, z0n, z07, z06, z05, z04, z08, z11, z1n, z12, z13, z1h, z1t, z3x, z1x, z1y, z3h, z3i, z3r, z3s, z3j, z3k, z3m, z3o, z3q, z3t, z3n, z2p, z2s, z37, z2k, z24, z25, z30, z2t, z31, z2e, z2d, z3g, z3f, z2m, z2n, z2u, z2j, z2x, z35, z2l, z3a, z38, z2i, z2q, z2y, z36, z40, z41, z3y, z45, z42, z43, z3b, z3c, z47, z1w, z3d, z46, yy0, yy1, yy2, yy3, yy4, yy5, z00, z02, z01, z03, z1v, z1u, z1z, z22, z20, z21, z2a, z28, z29, z27, z26, z2b, theGlobs, yy8, yy9, yy6, ne_eq, yy7, Nat.reduceAdd, Nat.reduceLT, if_true, itm c hc, hcc, itm (1 - c) (show 1 - c ≤ 1 by lia), hE]
  rw [wc_neL tE lt (by rw [← hmm]; exact lt)]
  rw [← hmm]
  simp only [z14, z1q, z1r, z1d, z0p, z1a, z15, z1b, z0a, z09, z1f, z1e, z0o, z0u, z0v, z0s, z0r, z0q, z16, z0l, z17, z18, z1o, z1p, z0t, z0g, z0f, z0d, z0c, z0b, z0e, z0z, z0y, z0x, z0w, z10, z19, z1s, z0h, z0j, z0i, z0k, z1c, z1i, z1j, z1l, z1k, z1m, z1g, z0m, z0n, z07, z06, z05, z04, z08, z11, z1n, z12, z13, z1h, z1t, z3x, z1x, z1y, z3h, z3i, z3r, z3s, z3j, z3k, z3m, z3o, z3q, z3t, z3n, z2p, z2s, z37, z2k, z24, z25, z30, z2t, z31, z2e, z2d, z3g, z3f, z2m, z2n, z2u, z2j, z2x, z35, z2l, z3a, z38, z2i, z2q, z2y, z36, z40, z41, z3y, z45, z42, z43, z3b, z3c, z47, z1w, z3d, z46, yy0, yy1, yy2, yy3, yy4, yy5, z00, z02, z01, z03, z1v, z1u, z1z, z22, z20, z21, z2a, z28, z29, z27, z26, z2b, theGlobs, yy8, yy9, yy6, ne_eq, yy7, Nat.reduceAdd, Nat.reduceLT, if_true, decide_true, Bool.not_true, Bool.false_eq_true, if_false]
  have hfin : ∃ E', Z ++ E = X ++ E' := by
    obtain ⟨E1, h1⟩ := hp1
    obtain ⟨E2, h2⟩ := hp4
    exact ⟨E1 ++ E2 ++ E, by rw [← h2, ← h1]; simp⟩
  obtain ⟨E', hE'⟩ := hfin
  rw [hE']
  exact q _ _ _ _ _ _
end
end Mine
end

section
set_option linter.unusedSimpArgs false
set_option maxRecDepth 100000
namespace Mine
open PySem.Builtin

theorem val_set {bl : List Nat} {i v s : Nat} (h : i < bl.length) : val (bl.set i v) s = if s = i then v else val bl s := by
  unfold val
  rw [List.getD_eq_getElem?_getD, List.getD_eq_getElem?_getD, List.getElem?_set]
  by_cases e : i = s
  · subst e; rw [if_pos rfl, if_pos h, if_pos rfl]; rfl
  · rw [if_neg e, if_neg (Ne.symm e)]
theorem Brd.start {F R : Nat} : Brd F R (List.replicate (F * R) 0) := by
  have : ∀ s, val (List.replicate (F * R) 0) s = 0 := fun s => by
    unfold val
    rw [List.getD_eq_getElem?_getD, List.getElem?_replicate]; split <;> rfl
  exact ⟨by simp, fun s => .inl (this s), fun s h => by rw [this] at h; lia⟩
theorem Brd.king {F R : Nat} {bl : List Nat} (B : Brd F R bl) {i v : Nat} (h : i < F * R) (hv : v = 6 ∨ v = 14) : Brd F R (bl.set i v) := by
  have hl : i < bl.length := by rw [B.len]; exact h
  refine ⟨by rw [List.length_set]; exact B.len, fun s => ?_, fun s => ?_⟩
  · rw [val_set hl]; split
    · lia
    · exact B.vals s
  · rw [val_set hl]; split
    · intro q; lia
    · exact B.pawns s
theorem Brd.pawn {F R : Nat} {bl : List Nat} (B : Brd F R bl) {i v : Nat} (h : F ≤ i ∧ i + F < F * R) (hv : v = 1 ∨ v = 9) : Brd F R (bl.set i v) := by
  have hl : i < bl.length := by rw [B.len]; lia
  refine ⟨by rw [List.length_set]; exact B.len, fun s => ?_, fun s => ?_⟩
  · rw [val_set hl]; split
    · lia
    · exact B.vals s
  · rw [val_set hl]; split
    · rename_i e; intro _; rw [e]; exact h
    · exact B.pawns s
section
variable {n F R : Nat}
theorem drawn_loop {Q : Flw → Vars → AH → Prop} {v0 v2 v3 v4 v5 v6 v7 v8 v9 v10 v11 v12 : Option PV} : ∀ (fuel : Nat) (D : List Int), 2 - D.length < fuel → D.length ≤ 18 →
    (∀ D : List Int, 2 ≤ D.length → D.length ≤ 18 → Q .next [v0, some (.loc 0), v2, v3, v4, v5, v6, v7, v8, v9, v10, v11, v12] [.list (ivs D)]) →
    wpW n (.cmp .lt (.call .len (.cons (.var 1) .nil)) (.const (.int 2))) (.cons (.expr (.append (.var 1) (.const (.int 0)))) .nil) fuel [v0, some (.loc 0), v2, v3, v4, v5, v6, v7, v8, v9, v10, v11, v12] [.list (ivs D)] Q
  | 0, _, h, _, _ => absurd h (Nat.not_lt_zero _)
  | fuel + 1, D, h, hl, q => by
    have hlen : (ivs D).length = D.length := by rw [ivs, List.length_map]
    have e1 : callB (run n) inits .len [.loc 0] [.list (ivs D)] = some (.int (D.length : Nat), [.list (ivs D)]) := by
      have : items [AObj.list (ivs D)] (.loc 0) = some (ivs D) := rfl
      rw [cb_len' this (by rw [hlen]; lia), hlen]
    refine wpW_succ ?_
    simp only [z14, z1q, z1r, z1d, z0p, z1a, z15, z1b, z0a, z09, z1f, z1e, z0o, z0u, z0v, z0s, z0r, z0q, z16, z0l, z17, z18, z1o, z1p, z0t, z0g, z0f, z0d, z0c, z0b, z0e, z0z, z0y, z0x, z0w, z10, z19, z1s, z0h, z0j, z0i, z0k, z1c, z1i, z1j, z1l, z1k, z1m, z1g, z0m, z0n, z07, z06, z05, z04, z08, z11, z1n, z12, z13, z1h, z1t, z3u, z3x, z1x, z1y, z3h, z3i, z3r, z3s, z3j, z3k, z3m, z3o, z3q, z3t, z3n, z2p, z2s, z37, z2k, z24, z25, z30, z2t, z31, z2e, z2d, z3g, z3f, z2m, z2n, z2u, z2j, z2x, z35, z2l, z3a, z38, z2i, z2q, z2y, z36, z40, z41, z3y, z45, z42, z43, z3b, z3c, z47, z1w, z3d, z46, yy0, yy1, yy2, yy3, yy4, yy5, z00, z02, z01, z03, z1v, z1u, z1z, z22, z20, z21, z2a, z28, z29, z27, z26, z2b, theGlobs, yy8, yy9, yy6, ne_eq, yy7, Nat.reduceAdd, Nat.reduceLT, if_true, e1]
    by_cases h2 : D.length < 2
    · rw [if_pos (by lia)]
      have g : [AObj.list (ivs D)][0]? = some (.list (ivs D)) := rfl
      have ea : ivs D ++ [.int 0] = ivs (D ++ [0]) := by simp [ivs]
      simp only [z14, z1q, z1r, z1d, z0p, z1a, z15, z1b, z0a, z09, z1f, z1e, z0o, z0u, z0v, z0s, z0r, z0q, z16, z0l, z17, z18, z1o, z1p, z0t, z0g, z0f, z0d, z0c, z0b, z0e, z0z, z0y, z0x, z0w, z10, z19, z1s, z0h, z0j, z0i, z0k, z1c, z1i, z1j, z1l, z1k, z1m, z1g, z0m, z0n, z07, z06, z05, z04, z08, z11, z1n, z12, z13, z1h, z1t, z3u, z3x, z1x, z1y, z3h, z3i, z3r, z3s, z3j, z3k, z3m, z3o, z3q, z3t, z3n, z2p, z2s, z37, z2k, z24, z25, z30, z2t, z31, z2e, z2d, z3g, z3f, z2m, z2n, z2u, z2j, z2x, z35, z2l, z3a, z38, z2i, z2q, z2y, z36, z40, z41, z3y, z45, z42, z43, z3b, z3c, z47, z1w, z3d, z46, yy0, yy1, yy2, yy3, yy4, yy5, z00, z02, z01, z03, z1v, z1u, z1z, z22, z20, z21, z2a, z28, z29, z27, z26, z2b, theGlobs, yy8, yy9, yy6, ne_eq, yy7, Nat.reduceAdd, Nat.reduceLT, if_true, wpL_loc g, ea, hlen]
      refine ⟨by lia, ?_⟩
      exact drawn_loop fuel (D ++ [0]) (by rw [List.length_append, List.length_singleton]; lia) (by rw [List.length_append, List.length_singleton]; lia) q
    · rw [if_neg (by lia)]
      exact q D (by lia) hl
noncomputable abbrev nBody : Sts := .cons (.setItem (.var 4) (.bin .add (.var 2) (.bin .mod (.bin .fdiv (.var 5) (.const (.int 2))) (.bin .mul (.var 2) (.bin .sub (.var 3) (.const (.int 2)))))) (.bin .add (.const (.int 1)) (.bin .mul (.bin .mod (.var 5) (.const (.int 2))) (.const (.int 8))))) .nil
theorem n_loop (S : Shape F R) {Q : Flw → Vars → AH → Prop} {vs0 : List PV} {a b d : AObj} {v0 v1 v6 v7 v8 v9 v10 v11 v12 : Option PV} : ∀ (r : List Int) (bl : List Nat) (v5 : Option PV), Brd F R bl →
    (∀ bl v5, Brd F R bl → Q .next [v0, v1, some (.int F), some (.int R), some (.loc 2), v5, v6, v7, v8, v9, v10, v11, v12] [a, b, .list (pints bl), d]) →
    wpF n (.lst vs0) vs0 [5] nBody (ivs r) [v0, v1, some (.int F), some (.int R), some (.loc 2), v5, v6, v7, v8, v9, v10, v11, v12] [a, b, .list (pints bl), d] Q
  | [], bl, v5, B, q => by
    rw [show ivs [] = [] from rfl]; refine wpF_nil ?_
    exact ⟨rfl, q bl _ B⟩
  | x :: r, bl, v5, B, q => by
    have nx := fun bl v5 B => n_loop S (Q := Q) (vs0 := vs0) (a := a) (b := b) (d := d) (v0 := v0) (v1 := v1) (v6 := v6) (v7 := v7) (v8 := v8) (v9 := v9) (v10 := v10) (v11 := v11) (v12 := v12) r bl v5 B q
    have hF := S.f2; have hF8 := S.f8; have hR := S.r3; have hR8 := S.r8
    rw [show ivs (x :: r) = .int x :: ivs r from rfl]; refine wpF_cons ?_
    refine ⟨rfl, ?_⟩
    have hM : (F : Int) * ((R : Int) - 2) = ((F * (R - 2) : Nat) : Int) := by rw [Int.natCast_mul]; congr 1; lia
    have hMF : F + F * (R - 2) + F = F * R := by
      obtain ⟨r', rfl⟩ : ∃ r', R = r' + 2 := ⟨R - 2, by lia⟩
      rw [Nat.add_sub_cancel, Nat.mul_add]; lia
    have hM0 : 2 ≤ F * (R - 2) := Nat.le_trans (show 2 ≤ 2 * 1 by decide) (Nat.mul_le_mul hF (by lia))
    have hM48 : F * (R - 2) ≤ 48 := Nat.mul_le_mul hF8 (show R - 2 ≤ 6 by lia)
    have mF : ∀ y, (small (F : Int) || small y) = true := fun y => by rw [smallF (by lia)]; rfl
    have m2 : ((!decide ((2 : Int) = 0)) && decide ((2 : Int).natAbs < 1073741824)) = true := rfl
    have mM : ((!decide (((F * (R - 2) : Nat) : Int) = 0)) && decide (((F * (R - 2) : Nat) : Int).natAbs < 1073741824)) = true := by
      rw [Bool.and_eq_true, Bool.not_eq_true', decide_eq_false_iff_not, yy6]; lia
    have m8 : ∀ y, (small y || small 8) = true := fun y => by rw [show small 8 = true from rfl]; simp
    obtain ⟨i, hi⟩ := Int.eq_ofNat_of_zero_le (Int.fmod_nonneg_of_pos (x.fdiv 2) (b := ((F * (R - 2) : Nat) : Int)) (by lia))
    have hi2 := Int.fmod_lt_of_pos (x.fdiv 2) (b := ((F * (R - 2) : Nat) : Int)) (by lia)
    rw [hi] at hi2
    obtain ⟨j, hj⟩ := Int.eq_ofNat_of_zero_le (Int.fmod_nonneg_of_pos x (b := 2) (by decide))
    have hj2 := Int.fmod_lt_of_pos x (b := 2) (by decide)
    rw [hj] at hj2
    have ei : (F : Int) + (i : Int) = ((F + i : Nat) : Int) := by lia
    have ej : (1 : Int) + (j : Int) * 8 = ((1 + j * 8 : Nat) : Int) := by lia
    have es : ∀ v : Nat, vSetItem [a, b, .list (pints bl), d] (.loc 2) (.int (F + i : Nat)) (.int v) = some [a, b, .list (pints (bl.set (F + i) v)), d] := fun v => by
      rw [setItem_of (vs := pints bl) rfl (by rw [pints_len, B.len]; lia) (by lia), pints_set]; rfl
    simp only [bindT_one, bindT_tup, setAll_cons, setAll_nil, og_t, decide_true, z14, z1q, z1r, z1d, z0p, z1a, z15, z1b, z0a, z09, z1f, z1e, z0o, z0u, z0v, z0s, z0r, z0q, z16, z0l, z17, z18, z1o, z1p, z0t, z0g, z0f, z0d, z0c, z0b, z0e, z0z, z0y, z0x, z0w, z10, z19, z1s, z0h, z0j, z0i, z0k, z1c, z1i, z1j, z1l, z1k, z1m, z1g, z0m, z0n, z07, z06, z05, z04, z08, z11, z1n, z12, z13, z1h, z1t, z3u, z3x, z1x, z1y, z3h, z3i, z3r, z3s, z3j, z3k, z3m, z3o, z3q, z3t, z3n, z2p, z2s, z37, z2k, z24, z25, z30, z2t, z31, z2e, z2d, z3g, z3f, z2m, z2n, z2u, z2j, z2x, z35, z2l, z3a, z38, z2i, z2q, z2y, z36, z40, z41, z3y, z45, z42, z43, z3b, z3c, z47, z1w, z3d, z46, yy0, yy1, yy2, yy3, yy4, yy5, z00, z02, z01, z03, z1v, z1u, z1z, z22, z20, z21, z2a, z28, z29, z27, z26, z2b, theGlobs, yy8, yy9, yy6, ne_eq, yy7, Nat.reduceAdd, Nat.reduceLT, if_true, nBody, wb_mul, wb_fdiv, wb_mod, m2, mF, hM, mM, m8, hi, hj, ei, ej, es]
    exact nx _ _ (B.pawn ⟨by lia, by lia⟩ (by lia))
end
end Mine
end

section
set_option linter.unusedSimpArgs false
set_option maxRecDepth 100000
namespace Mine
open PySem.Builtin

section
variable {n F R : Nat}
theorem wb_cat {H : AH} {l : Nat} {ws vs : List PV} {Q : PV → AH → Prop} (h : H[l]? = some (.list ws)) (hl : ws.length + vs.length ≤ 1000) : wpO (binop H .add (.loc l) (.lst vs)) Q = Q (.lst (ws ++ vs)) H := by
  have h2 : items H (.loc l) = some ws := by simp only [items, h]
  show wpO (oo (items H (.loc l)) fun a => oo (items H (.lst vs)) fun b => og (decide (a.length + b.length ≤ 1000)) (some (.lst (a ++ b), H))) Q = _
  rw [h2]
  show wpO (og (decide (ws.length + vs.length ≤ 1000)) _) Q = _
  rw [decide_eq_true hl]; exact z3d
theorem law_rest (hm : MathOK) {D : List Int} (h2 : 2 ≤ D.length) (h18 : D.length ≤ 18) {v0 v2 v3 v4 v5 v6 v7 v8 v9 v10 v11 v12 : Option PV} {c : Sts}
    (hc : d_law.body = .cons (.while (.cmp .lt (.call .len (.cons (.var 1) .nil)) (.const (.int 2))) (.cons (.expr (.append (.var 1) (.const (.int 0)))) .nil)) c) :
    wpSs (n+5) c [v0, some (.loc 0), v2, v3, v4, v5, v6, v7, v8, v9, v10, v11, v12] [.list (ivs D)] (fun f _ _ => f = .ret (.bool true)) := by
  unfold d_law at hc
  injection hc with _ hc
  subst hc
  obtain ⟨d0, d1, D', rfl⟩ : ∃ d0 d1 D', D = d0 :: d1 :: D' := by
    match D, h2 with
    | d0 :: d1 :: D', _ => exact ⟨d0, d1, D', rfl⟩
  have m7 : ((!decide ((7 : Int) = 0)) && decide ((7 : Int).natAbs < 1073741824)) = true := rfl
  have m6 : ((!decide ((6 : Int) = 0)) && decide ((6 : Int).natAbs < 1073741824)) = true := rfl
  obtain ⟨a, ha⟩ := Int.eq_ofNat_of_zero_le (Int.fmod_nonneg_of_pos d0 (b := 7) (by decide))
  have ha2 := Int.fmod_lt_of_pos d0 (b := 7) (by decide)
  rw [ha] at ha2
  obtain ⟨b, hb⟩ := Int.eq_ofNat_of_zero_le (Int.fmod_nonneg_of_pos d1 (b := 6) (by decide))
  have hb2 := Int.fmod_lt_of_pos d1 (b := 6) (by decide)
  rw [hb] at hb2
  obtain ⟨F, hF⟩ : ∃ F, F = 2 + a := ⟨_, rfl⟩
  obtain ⟨R, hR⟩ : ∃ R, R = 3 + b := ⟨_, rfl⟩
  have eF : (2 : Int) + (a : Int) = (F : Int) := by lia
  have eR : (3 : Int) + (b : Int) = (R : Int) := by lia
  have S : Shape F R := ⟨by lia, by lia, by lia, by lia⟩
  have hF2 := S.f2; have hF8 := S.f8; have hR3 := S.r3; have hR8 := S.r8; have hsz := S.sz
  have mF : ((!decide ((F : Int) = 0)) && decide ((F : Int).natAbs < 1073741824)) = true := by
    rw [Bool.and_eq_true, Bool.not_eq_true', decide_eq_false_iff_not, yy6]; lia
  have sF : ∀ y, (small (F : Int) || small y) = true := fun y => by rw [smallF (by lia)]; rfl
  obtain ⟨i, hi⟩ := Int.eq_ofNat_of_zero_le (Int.fmod_nonneg_of_pos (d0.fdiv 7) (b := (F : Int)) (by lia))
  have hi2 := Int.fmod_lt_of_pos (d0.fdiv 7) (b := (F : Int)) (by lia)
  rw [hi] at hi2
  obtain ⟨j, hj⟩ := Int.eq_ofNat_of_zero_le (Int.fmod_nonneg_of_pos (d1.fdiv 6) (b := (F : Int)) (by lia))
  have hj2 := Int.fmod_lt_of_pos (d1.fdiv 6) (b := (F : Int)) (by lia)
  rw [hj] at hj2
  have hFN : F * 3 ≤ F * R := Nat.mul_le_mul_left F hR3
  have ej : ((F * R : Nat) : Int) - 1 - (j : Int) = ((F * R - 1 - j : Nat) : Int) := by lia
  have i0 : ∀ E : AH, vGetItem (.list (ivs (d0 :: d1 :: D')) :: E) (.loc 0) (.int 0) = some (.int d0) := fun E => item_of (k := 0) rfl rfl (by decide)
  have i1 : ∀ E : AH, vGetItem (.list (ivs (d0 :: d1 :: D')) :: E) (.loc 0) (.int 1) = some (.int d1) := fun E => item_of (k := 1) rfl rfl (by decide)
  have r1 : ∀ (x : AObj) (Q : PV → AH → Prop), wpO (binop [x, .list [.int 0]] .mul (.loc 1) (.int (F * R : Nat))) Q = Q (.loc 2) [x, .list [.int 0], .list (pints (List.replicate (F * R) 0))] := fun x Q => by
    have := wb_rep (H := [x]) (v := .int 0) (k := F * R) (Q := Q) (by lia)
    have e : (List.replicate (F * R) (PV.int 0)) = pints (List.replicate (F * R) 0) := by simp [pints]
    rw [e] at this
    exact this
  have s1 : ∀ (x y : AObj) (bl : List Nat) (k v : Nat), bl.length = F * R → k < F * R → vSetItem [x, y, .list (pints bl)] (.loc 2) (.int k) (.int v) = some [x, y, .list (pints (bl.set k v))] := fun x y bl k v h1 h2 => by
    rw [setItem_of (vs := pints bl) rfl (by rw [pints_len]; lia) (by lia), pints_set]; rfl
  rw [z3u]
  simp only [z14, z1q, z1r, z1d, z0p, z1a, z15, z1b, z0a, z09, z1f, z1e, z0o, z0u, z0v, z0s, z0r, z0q, z16, z0l, z17, z18, z1o, z1p, z0t, z0g, z0f, z0d, z0c, z0b, z0e, z0z, z0y, z0x, z0w, z10, z19, z1s, z0h, z0j, z0i, z0k, z1c, z1i, z1j, z1l, z1k, z1m, z1g, z0m, z0n, z07, z06, z05, z04, z08, z11, z1n, z12, z13, z1h, z1t, z3x, z1x, z1y, z3h, z3i, z3r, z3s, z3j, z3k, z3m, z3o, z3q, z3t, z3n, z2p, z2s, z37, z2k, z24, z25, z30, z2t, z31, z2e, z2d, z3g, z3f, z2m, z2n, z2u, z2j, z2x, z35, z2l, z3a, z38, z2i, z2q, z2y, z36, z40, z41, z3y, z45, z42, z43, z3b, z3c, z47, z1w, z3d, z46, yy0, yy1, yy2, yy3, yy4, yy5, z00, z02, z01, z03, z1v, z1u, z1z, z22, z20, z21, z2a, z28, z29, z27, z26, z2b, theGlobs, yy8, yy9, yy6, ne_eq, yy7, Nat.reduceAdd, Nat.reduceLT, if_true, i0, wb_mod, m7, ha, eF]
  rw [z3u]
  simp only [z14, z1q, z1r, z1d, z0p, z1a, z15, z1b, z0a, z09, z1f, z1e, z0o, z0u, z0v, z0s, z0r, z0q, z16, z0l, z17, z18, z1o, z1p, z0t, z0g, z0f, z0d, z0c, z0b, z0e, z0z, z0y, z0x, z0w, z10, z19, z1s, z0h, z0j, z0i, z0k, z1c, z1i, z1j, z1l, z1k, z1m, z1g, z0m, z0n, z07, z06, z05, z04, z08, z11, z1n, z12, z13, z1h, z1t, z3x, z1x, z1y, z3h, z3i, z3r, z3s, z3j, z3k, z3m, z3o, z3q, z3t, z3n, z2p, z2s, z37, z2k, z24, z25, z30, z2t, z31, z2e, z2d, z3g, z3f, z2m, z2n, z2u, z2j, z2x, z35, z2l, z3a, z38, z2i, z2q, z2y, z36, z40, z41, z3y, z45, z42, z43, z3b, z3c, z47, z1w, z3d, z46, yy0, yy1, yy2, yy3, yy4, yy5, z00, z02, z01, z03, z1v, z1u, z1z, z22, z20, z21, z2a, z28, z29, z27, z26, z2b, theGlobs, yy8, yy9, yy6, ne_eq, yy7, Nat.reduceAdd, Nat.reduceLT, if_true, i1, wb_mod, m6, hb, eR]
  rw [z3u]
  simp only [z14, z1q, z1r, z1d, z0p, z1a, z15, z1b, z0a, z09, z1f, z1e, z0o, z0u, z0v, z0s, z0r, z0q, z16, z0l, z17, z18, z1o, z1p, z0t, z0g, z0f, z0d, z0c, z0b, z0e, z0z, z0y, z0x, z0w, z10, z19, z1s, z0h, z0j, z0i, z0k, z1c, z1i, z1j, z1l, z1k, z1m, z1g, z0m, z0n, z07, z06, z05, z04, z08, z11, z1n, z12, z13, z1h, z1t, z3x, z1x, z1y, z3h, z3i, z3r, z3s, z3j, z3k, z3m, z3o, z3q, z3t, z3n, z2p, z2s, z37, z2k, z24, z25, z30, z2t, z31, z2e, z2d, z3g, z3f, z2m, z2n, z2u, z2j, z2x, z35, z2l, z3a, z38, z2i, z2q, z2y, z36, z40, z41, z3y, z45, z42, z43, z3b, z3c, z47, z1w, z3d, z46, yy0, yy1, yy2, yy3, yy4, yy5, z00, z02, z01, z03, z1v, z1u, z1z, z22, z20, z21, z2a, z28, z29, z27, z26, z2b, theGlobs, yy8, yy9, yy6, ne_eq, yy7, Nat.reduceAdd, Nat.reduceLT, if_true, wb_mul, sF, ← Int.natCast_mul, List.cons_append, List.nil_append, r1, Nat.reduceLeDiff]
  have B0 : Brd F R (List.replicate (F * R) 0) := Brd.start
  have B1 := B0.king (i := i) (v := 6) (by lia) (.inl rfl)
  have B2 := B1.king (i := F * R - 1 - j) (v := 14) (by lia) (.inr rfl)
  have c6 : (6 : Int) = ((6 : Nat) : Int) := rfl
  have c14 : (14 : Int) = ((14 : Nat) : Int) := rfl
  have t1 := s1 (.list (ivs (d0 :: d1 :: D'))) (.list [.int 0]) (List.replicate (F * R) 0) i 6 B0.len (by lia)
  have t2 := s1 (.list (ivs (d0 :: d1 :: D'))) (.list [.int 0]) ((List.replicate (F * R) 0).set i 6) (F * R - 1 - j) 14 B1.len (by lia)
  rw [← c6] at t1
  rw [← c14] at t2
  rw [z3u]
  simp only [z14, z1q, z1r, z1d, z0p, z1a, z15, z1b, z0a, z09, z1f, z1e, z0o, z0u, z0v, z0s, z0r, z0q, z16, z0l, z17, z18, z1o, z1p, z0t, z0g, z0f, z0d, z0c, z0b, z0e, z0z, z0y, z0x, z0w, z10, z19, z1s, z0h, z0j, z0i, z0k, z1c, z1i, z1j, z1l, z1k, z1m, z1g, z0m, z0n, z07, z06, z05, z04, z08, z11, z1n, z12, z13, z1h, z1t, z3x, z1x, z1y, z3h, z3i, z3r, z3s, z3j, z3k, z3m, z3o, z3q, z3t, z3n, z2p, z2s, z37, z2k, z24, z25, z30, z2t, z31, z2e, z2d, z3g, z3f, z2m, z2n, z2u, z2j, z2x, z35, z2l, z3a, z38, z2i, z2q, z2y, z36, z40, z41, z3y, z45, z42, z43, z3b, z3c, z47, z1w, z3d, z46, yy0, yy1, yy2, yy3, yy4, yy5, z00, z02, z01, z03, z1v, z1u, z1z, z22, z20, z21, z2a, z28, z29, z27, z26, z2b, theGlobs, yy8, yy9, yy6, ne_eq, yy7, Nat.reduceAdd, Nat.reduceLT, if_true, i0, wb_fdiv, wb_mod, m7, mF, hi, t1]
  rw [z3u]
  simp only [z14, z1q, z1r, z1d, z0p, z1a, z15, z1b, z0a, z09, z1f, z1e, z0o, z0u, z0v, z0s, z0r, z0q, z16, z0l, z17, z18, z1o, z1p, z0t, z0g, z0f, z0d, z0c, z0b, z0e, z0z, z0y, z0x, z0w, z10, z19, z1s, z0h, z0j, z0i, z0k, z1c, z1i, z1j, z1l, z1k, z1m, z1g, z0m, z0n, z07, z06, z05, z04, z08, z11, z1n, z12, z13, z1h, z1t, z3x, z1x, z1y, z3h, z3i, z3r, z3s, z3j, z3k, z3m, z3o, z3q, z3t, z3n, z2p, z2s, z37, z2k, z24, z25, z30, z2t, z31, z2e, z2d, z3g, z3f, z2m, z2n, z2u, z2j, z2x, z35, z2l, z3a, z38, z2i, z2q, z2y, z36, z40, z41, z3y, z45, z42, z43, z3b, z3c, z47, z1w, z3d, z46, yy0, yy1, yy2, yy3, yy4, yy5, z00, z02, z01, z03, z1v, z1u, z1z, z22, z20, z21, z2a, z28, z29, z27, z26, z2b, theGlobs, yy8, yy9, yy6, ne_eq, yy7, Nat.reduceAdd, Nat.reduceLT, if_true, i1, wb_fdiv, wb_mod, wb_mul, sF, ← Int.natCast_mul, m6, mF, hj, ej, t2]
  rw [z3u]
  have hitm : ∀ E : AH, items (.list (ivs (d0 :: d1 :: D')) :: E) (.loc 0) = some (ivs (d0 :: d1 :: D')) := fun E => rfl
  have hlen : (ivs (d0 :: d1 :: D')).length ≤ 1000 := by rw [ivs, List.length_map]; lia
  have hsl : (ivs (d0 :: d1 :: D')).drop 2 = ivs D' := rfl
  have hgen : ∀ (x y z : AObj), [x, y, z, AObj.list [.int 5, .int 2]][3]? = some (.list [.int 5, .int 2]) := fun x y z => rfl
  have hl' : [PV.int 5, .int 2].length + (ivs D').length ≤ 1000 := by
    rw [ivs, List.length_map]; simp only [yy0, yy1] at h18 ⊢; lia
  have e52 : PV.int 5 :: PV.int 2 :: ivs D' = ivs (5 :: 2 :: D') := rfl
  have hsrc : ∀ H : AH, source H (.lst (ivs (5 :: 2 :: D'))) = some (ivs (5 :: 2 :: D')) := fun H => rfl
  have hsl2 : ((0 : Int) ≤ 2) := by decide
  simp only [z14, z1q, z1r, z1d, z0p, z1a, z15, z1b, z0a, z09, z1f, z1e, z0o, z0u, z0v, z0s, z0r, z0q, z16, z0l, z17, z18, z1o, z1p, z0t, z0g, z0f, z0d, z0c, z0b, z0e, z0z, z0y, z0x, z0w, z10, z19, z1s, z0h, z0j, z0i, z0k, z1c, z1i, z1j, z1l, z1k, z1m, z1g, z0m, z0n, z07, z06, z05, z04, z08, z11, z1n, z12, z13, z1h, z1t, z3n, z2k, z24, z25, z2y, z38, z3a, z2p, yy0, yy1, yy7, Nat.reduceAdd, Nat.reduceLeDiff, yy8, z35, z37, yy5, yy4, z46, List.cons_append, List.nil_append, hitm, z47, hlen, hsl2, and_self, Int.reduceToNat, hsl, wb_cat (hgen _ _ _) hl', e52, hsrc]
  refine ⟨by rw [ivs, List.length_map]; simp only [yy0] at h18 ⊢; lia, ?_⟩
  refine n_loop S (5 :: 2 :: D') _ _ B2 fun bl v5 B => ?_
  obtain ⟨X1, hg, hpre, G⟩ := ev_make_geometry (n := n+2) (H := [.list (ivs (d0 :: d1 :: D')), .list [.int 0], .list (pints bl), .list [.int 5, .int 2]]) S
  have hbd : X1[2]? = some (.list (pints bl)) := pre_get hpre rfl
  generalize ([AObj.list (ivs (d0 :: d1 :: D')), .list [.int 0], .list (pints bl), .list [.int 5, .int 2]] : AH).length = l at *
  obtain ⟨E, hp, P⟩ := ev_law_position (n := n+3) S B G hbd
  have G2 := G.pre (List.prefix_append X1 E)
  have hbd2 := pre_get (List.prefix_append X1 E) hbd
  generalize X1 ++ E = X2 at *
  have h01 : ∀ H : AH, source H (.tup [.int 0, .int 1]) = some [.int 0, .int 1] := fun H => rfl
  rw [z1x, z3u]
  simp only [z14, z1q, z1r, z1d, z0p, z1a, z15, z1b, z0a, z09, z1f, z1e, z0o, z0u, z0v, z0s, z0r, z0q, z16, z0l, z17, z18, z1o, z1p, z0t, z0g, z0f, z0d, z0c, z0b, z0e, z0z, z0y, z0x, z0w, z10, z19, z1s, z0h, z0j, z0i, z0k, z1c, z1i, z1j, z1l, z1k, z1m, z1g, z0m, z0n, z07, z06, z05, z04, z08, z11, z1n, z12, z13, z1h, z1t, z3x, z1x, z1y, z3h, z3i, z3r, z3s, z3j, z3k, z3m, z3o, z3q, z3t, z3n, z2p, z2s, z37, z2k, z24, z25, z30, z2t, z31, z2e, z2d, z3g, z3f, z2m, z2n, z2u, z2j, z2x, z35, z2l, z3a, z38, z2i, z2q, z2y, z36, z40, z41, z3y, z45, z42, z43, z3b, z3c, z47, z1w, z3d, z46, yy0, yy1, yy2, yy3, yy4, yy5, z00, z02, z01, z03, z1v, z1u, z1z, z22, z20, z21, z2a, z28, z29, z27, z26, z2b, theGlobs, yy8, yy9, yy6, ne_eq, yy7, Nat.reduceAdd, Nat.reduceLT, if_true, hg, hp]
  rw [z3u]
  simp only [z14, z1q, z1r, z1d, z0p, z1a, z15, z1b, z0a, z09, z1f, z1e, z0o, z0u, z0v, z0s, z0r, z0q, z16, z0l, z17, z18, z1o, z1p, z0t, z0g, z0f, z0d, z0c, z0b, z0e, z0z, z0y, z0x, z0w, z10, z19, z1s, z0h, z0j, z0i, z0k, z1c, z1i, z1j, z1l, z1k, z1m, z1g, z0m, z0n, z07, z06, z05, z04, z08, z11, z1n, z12, z13, z1h, z1t, z3x, z1x, z1y, z3h, z3i, z3r, z3s, z3j, z3k, z3m, z3o, z3q, z3t, z3n, z2p, z2s, z37, z2k, z24, z25, z30, z2t, z31, z2e, z2d, z3g, z3f, z2m, z2n, z2u, z2j, z2x, z35, z2l, z3a, z38, z2i, z2q, z2y, z36, z40, z41, z3y, z45, z42, z43, z3b, z3c, z47, z1w, z3d, z46, yy0, yy1, yy2, yy3, yy4, yy5, z00, z02, z01, z03, z1v, z1u, z1z, z22, z20, z21, z2a, z28, z29, z27, z26, z2b, theGlobs, yy8, yy9, yy6, ne_eq, yy7, Nat.reduceAdd, Nat.reduceLT, if_true, Nat.reduceLeDiff, h01]
  refine wpF_cons ?_
  refine ⟨rfl, ?_⟩
  simp only [bindT_one, og_t, decide_true, yy0, yy1, yy7, Nat.reduceAdd, Nat.reduceLT, if_true, z47, yy3, yy2]
  refine side_turn (c := 0) hm S B hbd2 G2 P (by decide) fun E2 v8 v9 v10 v11 v12 => ?_
  have G3 := G2.pre (List.prefix_append X2 E2)
  have P3 := P.pre (List.prefix_append X2 E2)
  have hbd3 := pre_get (List.prefix_append X2 E2) hbd2
  rw [z1u]; refine wpF_cons ?_
  refine ⟨rfl, ?_⟩
  simp only [bindT_one, og_t, decide_true, yy0, yy1, yy7, Nat.reduceAdd, Nat.reduceLT, if_true, z47, yy3, yy2]
  refine side_turn (c := 1) hm S B hbd3 G3 P3 (by decide) fun E3 v8 v9 v10 v11 v12 => ?_
  rw [z1u]; refine wpF_nil ?_
  refine ⟨rfl, ?_⟩
  rw [z1x, z3u]
  simp only [z14, z1q, z1r, z1d, z0p, z1a, z15, z1b, z0a, z09, z1f, z1e, z0o, z0u, z0v, z0s, z0r, z0q, z16, z0l, z17, z18, z1o, z1p, z0t, z0g, z0f, z0d, z0c, z0b, z0e, z0z, z0y, z0x, z0w, z10, z19, z1s, z0h, z0j, z0i, z0k, z1c, z1i, z1j, z1l, z1k, z1m, z1g, z0m, z0n, z07, z06, z05, z04, z08, z11, z1n, z12, z13, z1h, z1t, z3x, z1x, z1y, z3h, z3i, z3r, z3s, z3j, z3k, z3m, z3o, z3q, z3t, z3n, z2p, z2s, z37, z2k, z24, z25, z30, z2t, z31, z2e, z2d, z3g, z3f, z2m, z2n, z2u, z2j, z2x, z35, z2l, z3a, z38, z2i, z2q, z2y, z36, z40, z41, z3y, z45, z42, z43, z3b, z3c, z47, z1w, z3d, z46, yy0, yy1, yy2, yy3, yy4, yy5, z00, z02, z01, z03, z1v, z1u, z1z, z22, z20, z21, z2a, z28, z29, z27, z26, z2b, theGlobs, yy8, yy9, yy6, ne_eq, yy7, Nat.reduceAdd, Nat.reduceLT, if_true]
theorem law_run (hm : MathOK) (D : List Int) (h18 : D.length ≤ 18) : ∃ ρ' H', exSs (run (n+5)) inits theGlobs d_law.body (none :: some (.loc 0) :: List.replicate 11 none) [.list (ivs D)] = some (.ret (.bool true), ρ', H') := by
  have key : wpSs (n+5) d_law.body (none :: some (.loc 0) :: List.replicate 11 none) [.list (ivs D)] (fun f _ _ => f = .ret (.bool true)) := by
    obtain ⟨c, hc⟩ : ∃ c, d_law.body = .cons (.while (.cmp .lt (.call .len (.cons (.var 1) .nil)) (.const (.int 2))) (.cons (.expr (.append (.var 1) (.const (.int 0)))) .nil)) c := ⟨_, rfl⟩
    rw [hc, z3u, z3t]
    refine drawn_loop 200 D (by lia) h18 fun D' h2 h18' => ?_
    rw [z1x]
    exact law_rest hm h2 h18' hc
  rw [z3v] at key
  exact mR_inv key
end
end Mine
end

section
set_option linter.unusedSimpArgs false
namespace Mine
open PySem.Builtin

noncomputable def Onb (F R : Nat) (f q : Int) : Prop := 0 ≤ f ∧ f < F ∧ 0 ≤ q ∧ q < R
noncomputable def Tb (F R : Nat) (b : Nat) (f q : Int) : Prop := Onb F R f q ∧ b.testBit (q * F + f).toNat = true
theorem ix_nat {F f q : Nat} : ((q : Int) * (F : Int) + (f : Int)).toNat = q * F + f := by
  have : ((q : Int) * (F : Int) + (f : Int)) = ((q * F + f : Nat) : Int) := by rw [Int.natCast_add, Int.natCast_mul]
  rw [this, Int.toNat_natCast]
theorem ix_lt {F R f q : Nat} (hf : f < F) (hq : q < R) : q * F + f < F * R := by
  have : (q + 1) * F ≤ R * F := Nat.mul_le_mul_right F hq
  rw [Nat.add_mul, Nat.one_mul] at this
  rw [Nat.mul_comm F R]; lia
theorem Onb.nat {F R : Nat} {f q : Int} (h : Onb F R f q) : ∃ f' q' : Nat, f = f' ∧ q = q' ∧ f' < F ∧ q' < R := by
  obtain ⟨h1, h2, h3, h4⟩ := h
  obtain ⟨f', rfl⟩ := Int.eq_ofNat_of_zero_le h1
  obtain ⟨q', rfl⟩ := Int.eq_ofNat_of_zero_le h3
  exact ⟨f', q', rfl, rfl, by lia, by lia⟩
theorem Tb_nat {F R b f q : Nat} : Tb F R b f q ↔ f < F ∧ q < R ∧ b.testBit (q * F + f) = true := by
  unfold Tb Onb
  rw [ix_nat]
  constructor
  · rintro ⟨⟨_, h1, _, h2⟩, h3⟩; exact ⟨by lia, by lia, h3⟩
  · rintro ⟨h1, h2, h3⟩; exact ⟨⟨by lia, by lia, by lia, by lia⟩, h3⟩
theorem Tb.on {F R b : Nat} {f q : Int} (h : Tb F R b f q) : Onb F R f q := h.1
theorem Tb_and {F R a b : Nat} {f q : Int} : Tb F R (a &&& b) f q ↔ Tb F R a f q ∧ Tb F R b f q := by
  unfold Tb; rw [Nat.testBit_and, Bool.and_eq_true]
  constructor
  · rintro ⟨h, h1, h2⟩; exact ⟨⟨h, h1⟩, h, h2⟩
  · rintro ⟨⟨h, h1⟩, _, h2⟩; exact ⟨h, h1, h2⟩
theorem Tb_or {F R a b : Nat} {f q : Int} : Tb F R (a ||| b) f q ↔ Tb F R a f q ∨ Tb F R b f q := by
  unfold Tb; rw [Nat.testBit_or, Bool.or_eq_true]
  constructor
  · rintro ⟨h, h1 | h2⟩
    · exact .inl ⟨h, h1⟩
    · exact .inr ⟨h, h2⟩
  · rintro (⟨h, h1⟩ | ⟨h, h1⟩)
    · exact ⟨h, .inl h1⟩
    · exact ⟨h, .inr h1⟩
theorem Tb_andn {F R a b : Nat} {f q : Int} : Tb F R (andn a b) f q ↔ Tb F R a f q ∧ ¬ Tb F R b f q := by
  unfold Tb; rw [andn_bit, Bool.and_eq_true, Bool.not_eq_true', ← Bool.not_eq_true]
  constructor
  · rintro ⟨h, h1, h2⟩; exact ⟨⟨h, h1⟩, fun x => h2 x.2⟩
  · rintro ⟨⟨h, h1⟩, h2⟩; exact ⟨h, h1, fun x => h2 ⟨h, x⟩⟩

noncomputable def eps (sd : Int) : Int := if sd = 0 then 1 else -1
noncomputable def shN (F R : Nat) (sd : Int) (m b : Nat) : Nat := if sd = 0 then (b <<< (F * m)) &&& (2 ^ (F * R) - 1) else b >>> (F * m)
theorem Tb_sh {F R : Nat} {sd : Int} {m b : Nat} (hb : b < 2 ^ (F * R)) {f q : Int} : Tb F R (shN F R sd m b) f q ↔ Onb F R f q ∧ Tb F R b f (q - eps sd * m) := by
  constructor
  · intro h
    obtain ⟨f', q', rfl, rfl, hf, hq⟩ := h.on.nat
    refine ⟨h.on, ?_⟩
    have hbit := (Tb_nat.mp h).2.2
    unfold shN at hbit
    unfold eps
    split at hbit
    · rename_i h0
      rw [if_pos h0, Int.one_mul]
      rw [Nat.testBit_and, Nat.testBit_shiftLeft, Bool.and_eq_true, Bool.and_eq_true, yy6] at hbit
      obtain ⟨⟨h1, h2⟩, _⟩ := hbit
      have hm : m ≤ q' := by
        rcases Nat.lt_or_ge q' m with h3 | h3
        · exfalso
          have : F * (q' + 1) ≤ F * m := Nat.mul_le_mul_left F h3
          rw [Nat.mul_add, Nat.mul_one, Nat.mul_comm F q'] at this
          lia
        · exact h3
      have e : q' * F + f' - F * m = (q' - m) * F + f' := by
        obtain ⟨r, rfl⟩ : ∃ r, q' = r + m := ⟨q' - m, by lia⟩
        rw [Nat.add_sub_cancel, Nat.add_mul, Nat.mul_comm m F]; lia
      rw [show ((q' : Int) - (m : Int)) = ((q' - m : Nat) : Int) by lia]
      exact Tb_nat.mpr ⟨hf, by lia, by rw [← e]; exact h2⟩
    · rename_i h0
      rw [if_neg h0]
      rw [Nat.testBit_shiftRight] at hbit
      have e : F * m + (q' * F + f') = (q' + m) * F + f' := by rw [Nat.add_mul, Nat.mul_comm m F]; lia
      rw [e] at hbit
      have hlt := bit_lt hb hbit
      have hqm : q' + m < R := by
        rcases Nat.lt_or_ge (q' + m) R with h3 | h3
        · exact h3
        · exfalso
          have : R * F ≤ (q' + m) * F := Nat.mul_le_mul_right F h3
          rw [Nat.mul_comm R F] at this
          lia
      rw [show ((q' : Int) - -1 * (m : Int)) = ((q' + m : Nat) : Int) by lia]
      exact Tb_nat.mpr ⟨hf, hqm, hbit⟩
  · rintro ⟨hon, h⟩
    obtain ⟨f', q', rfl, rfl, hf, hq⟩ := hon.nat
    refine Tb_nat.mpr ⟨hf, hq, ?_⟩
    unfold shN
    unfold eps at h
    split
    · rename_i h0
      rw [if_pos h0, Int.one_mul] at h
      have hm : m ≤ q' := by have := h.on; unfold Onb at this; lia
      rw [show ((q' : Int) - (m : Int)) = ((q' - m : Nat) : Int) by lia] at h
      have hbit := (Tb_nat.mp h).2.2
      have e : q' * F + f' - F * m = (q' - m) * F + f' := by
        obtain ⟨r, rfl⟩ : ∃ r, q' = r + m := ⟨q' - m, by lia⟩
        rw [Nat.add_sub_cancel, Nat.add_mul, Nat.mul_comm m F]; lia
      have e2 : F * m ≤ q' * F + f' := by
        have : m * F ≤ q' * F := Nat.mul_le_mul_right F hm
        rw [Nat.mul_comm m F] at this; lia
      rw [Nat.testBit_and, Nat.testBit_shiftLeft, Nat.testBit_two_pow_sub_one, e, hbit, decide_eq_true e2, decide_eq_true (ix_lt hf hq)]; rfl
    · rename_i h0
      rw [if_neg h0, show ((q' : Int) - -1 * (m : Int)) = ((q' + m : Nat) : Int) by lia] at h
      have hbit := (Tb_nat.mp h).2.2
      have e : F * m + (q' * F + f') = (q' + m) * F + f' := by rw [Nat.add_mul, Nat.mul_comm m F]; lia
      rw [Nat.testBit_shiftRight, e]; exact hbit
theorem up_sh {F R b : Nat} {sd : Int} : up F R b sd = shN F R sd 1 b := by unfold up shN; rw [Nat.mul_one]
theorem Tb_up {F R b : Nat} {sd : Int} (hb : b < 2 ^ (F * R)) {f q : Int} : Tb F R (up F R b sd) f q ↔ Onb F R f q ∧ Tb F R b f (q - eps sd) := by
  rw [up_sh, Tb_sh hb]
  rw [show q - eps sd * ((1 : Nat) : Int) = q - eps sd by lia]
theorem fillStep_sh {F R m b : Nat} {sd : Int} : fillStep F R sd (F * m) b = b ||| shN F R sd m b := by unfold fillStep shN; split <;> rfl
theorem fill_go {F R b0 : Nat} {sd : Int} : ∀ (k m b : Nat), b < 2 ^ (F * R) → R ≤ m * 2 ^ k → 0 < F → (∀ f q, Tb F R b f q ↔ Onb F R f q ∧ ∃ j : Nat, j < m ∧ Tb F R b0 f (q - eps sd * j)) →
    ∃ m', R ≤ m' ∧ ∀ f q, Tb F R (fillGo F R sd k (F * m) b) f q ↔ Onb F R f q ∧ ∃ j : Nat, j < m' ∧ Tb F R b0 f (q - eps sd * j)
  | 0, m, b, hb, hm, hF, h => ⟨m, by rw [Nat.pow_zero, Nat.mul_one] at hm; exact hm, h⟩
  | k + 1, m, b, hb, hm, hF, h => by
    unfold fillGo
    split
    · have e : F * m + F * m = F * (m + m) := by rw [Nat.mul_add]
      rw [e]
      refine fill_go k (m + m) _ (fillStep_lt hb) (by rw [Nat.pow_succ] at hm; rw [← Nat.two_mul, Nat.mul_comm 2 m, Nat.mul_assoc, Nat.mul_comm 2]; exact hm) hF fun f q => ?_
      rw [fillStep_sh, Tb_or, Tb_sh hb, h, h]
      constructor
      · rintro (⟨h1, j, h2, h3⟩ | ⟨h1, _, j, h2, h3⟩)
        · exact ⟨h1, j, by lia, h3⟩
        · refine ⟨h1, j + m, by lia, ?_⟩
          have e2 : q - eps sd * ((j + m : Nat) : Int) = q - eps sd * m - eps sd * j := by rw [Int.natCast_add, Int.mul_add]; lia
          rw [e2]; exact h3
      · rintro ⟨h1, j, h2, h3⟩
        rcases Nat.lt_or_ge j m with h4 | h4
        · exact .inl ⟨h1, j, h4, h3⟩
        · right
          obtain ⟨i, rfl⟩ : ∃ i, j = i + m := ⟨j - m, by lia⟩
          have e2 : q - eps sd * ((i + m : Nat) : Int) = q - eps sd * m - eps sd * i := by rw [Int.natCast_add, Int.mul_add]; lia
          rw [e2] at h3
          refine ⟨h1, ?_, i, by lia, h3⟩
          have h5 := h3.on
          unfold Onb at h1 h5 ⊢
          have he : eps sd = 1 ∨ eps sd = -1 := by unfold eps; split <;> simp
          rcases he with he | he <;> rw [he] at h5 ⊢ <;> lia
    · rename_i hs
      refine ⟨m, ?_, h⟩
      rcases Nat.lt_or_ge m R with h3 | h3
      · exact absurd (Nat.mul_lt_mul_of_pos_left h3 hF) hs
      · exact h3
theorem Tb_fill {F R b : Nat} {sd : Int} (S : Shape F R) (hb : b < 2 ^ (F * R)) {f q : Int} : Tb F R (fill F R b sd) f q ↔ Onb F R f q ∧ ∃ j : Nat, Tb F R b f (q - eps sd * j) := by
  have hF := S.f2; have hR := S.r8
  obtain ⟨m', h1, h2⟩ := fill_go (F := F) (R := R) (b0 := b) (sd := sd) 7 1 b hb (by lia) (by lia) (fun f q => by
    constructor
    · intro h; exact ⟨h.on, 0, by lia, by rw [show q - eps sd * ((0 : Nat) : Int) = q by simp]; exact h⟩
    · rintro ⟨_, j, hj, h⟩
      have : j = 0 := by lia
      subst this
      rw [show q - eps sd * ((0 : Nat) : Int) = q by simp] at h; exact h)
  rw [Nat.mul_one] at h2
  unfold fill
  rw [h2]
  constructor
  · rintro ⟨h, j, _, h3⟩; exact ⟨h, j, h3⟩
  · rintro ⟨h, j, h3⟩
    refine ⟨h, j, ?_, h3⟩
    have h5 := h3.on
    unfold Onb at h h5
    have he : eps sd = 1 ∨ eps sd = -1 := by unfold eps; split <;> simp
    rcases he with he | he <;> rw [he] at h5 <;> lia
theorem Tb_nb {F R b : Nat} (S : Shape F R) (hb : b < 2 ^ (F * R)) {f q : Int} : Tb F R (nb F R b) f q ↔ Onb F R f q ∧ (Tb F R b (f - 1) q ∨ Tb F R b (f + 1) q) := by
  have hF := S.f2
  have cl : ∀ f' q' : Nat, f' < F → q' < R → ((colMask F R (F - 1)).testBit (q' * F + f') = true ↔ f' = F - 1) := fun f' q' h1 h2 => by
    rw [colMask_bit (by lia), Nat.add_comm, Nat.add_mul_mod_self_right, Nat.mod_eq_of_lt h1]
    have := ix_lt h1 h2
    constructor
    · exact fun h => h.2
    · exact fun h => ⟨by lia, h⟩
  have c0 : ∀ f' q' : Nat, f' < F → q' < R → ((colMask F R 0).testBit (q' * F + f') = true ↔ f' = 0) := fun f' q' h1 h2 => by
    rw [colMask_bit (by lia), Nat.add_comm, Nat.add_mul_mod_self_right, Nat.mod_eq_of_lt h1]
    have := ix_lt h1 h2
    constructor
    · exact fun h => h.2
    · exact fun h => ⟨by lia, h⟩
  have key : ∀ f' q' : Nat, f' < F → q' < R → ((nb F R b).testBit (q' * F + f') = true ↔ (1 ≤ f' ∧ b.testBit (q' * F + (f' - 1)) = true) ∨ (f' + 1 < F ∧ b.testBit (q' * F + (f' + 1)) = true)) := by
    intro f' q' h1 h2
    unfold nb
    rw [Nat.testBit_and, Nat.testBit_two_pow_sub_one, decide_eq_true (ix_lt h1 h2), Bool.and_true, Nat.testBit_or, Nat.testBit_shiftLeft, Nat.testBit_shiftRight, Bool.or_eq_true, Bool.and_eq_true, yy6, andn_bit, andn_bit, Bool.and_eq_true, Bool.and_eq_true, Bool.not_eq_true', Bool.not_eq_true', ← Bool.not_eq_true, ← Bool.not_eq_true]
    constructor
    · rintro (⟨h3, h4, h5⟩ | ⟨h4, h5⟩)
      · rcases Nat.eq_zero_or_pos f' with e | e
        · exfalso
          subst e
          obtain ⟨q'', rfl⟩ : ∃ q'', q' = q'' + 1 := by
            cases q' with
            | zero => rw [Nat.zero_mul] at h3; lia
            | succ n => exact ⟨n, rfl⟩
          have e2 : (q'' + 1) * F + 0 - 1 = q'' * F + (F - 1) := by rw [Nat.add_mul]; lia
          rw [e2] at h5
          exact h5 ((cl (F - 1) q'' (by lia) (by lia)).mpr rfl)
        · left
          refine ⟨e, ?_⟩
          rw [show q' * F + f' - 1 = q' * F + (f' - 1) by lia] at h4; exact h4
      · rcases Nat.lt_or_ge (f' + 1) F with e | e
        · right
          refine ⟨e, ?_⟩
          rw [show 1 + (q' * F + f') = q' * F + (f' + 1) by lia] at h4; exact h4
        · exfalso
          have e2 : 1 + (q' * F + f') = (q' + 1) * F + 0 := by rw [Nat.add_mul]; lia
          rw [e2] at h4 h5
          rcases Nat.lt_or_ge (q' + 1) R with h6 | h6
          · exact h5 ((c0 0 (q' + 1) (by lia) h6).mpr rfl)
          · have h7 := bit_lt hb h4
            have : R * F ≤ (q' + 1) * F := Nat.mul_le_mul_right F h6
            rw [Nat.mul_comm R F] at this
            lia
    · rintro (⟨h3, h4⟩ | ⟨h3, h4⟩)
      · left
        rw [show q' * F + f' - 1 = q' * F + (f' - 1) by lia]
        refine ⟨by lia, h4, fun h => ?_⟩
        have := (cl (f' - 1) q' (by lia) h2).mp h
        lia
      · right
        rw [show 1 + (q' * F + f') = q' * F + (f' + 1) by lia]
        refine ⟨h4, fun h => ?_⟩
        have := (c0 (f' + 1) q' h3 h2).mp h
        lia
  constructor
  · intro h
    refine ⟨h.on, ?_⟩
    obtain ⟨f', q', rfl, rfl, hf, hq⟩ := h.on.nat
    rcases (key f' q' hf hq).mp (Tb_nat.mp h).2.2 with ⟨h1, h2⟩ | ⟨h1, h2⟩
    · left
      rw [show ((f' : Int) - 1) = ((f' - 1 : Nat) : Int) by lia]
      exact Tb_nat.mpr ⟨by lia, hq, h2⟩
    · right
      rw [show ((f' : Int) + 1) = ((f' + 1 : Nat) : Int) by lia]
      exact Tb_nat.mpr ⟨by lia, hq, h2⟩
  · rintro ⟨hon, h⟩
    obtain ⟨f', q', rfl, rfl, hf, hq⟩ := hon.nat
    refine Tb_nat.mpr ⟨hf, hq, (key f' q' hf hq).mpr ?_⟩
    rcases h with h | h
    · left
      have : 1 ≤ f' := by have := h.on; unfold Onb at this; lia
      rw [show ((f' : Int) - 1) = ((f' - 1 : Nat) : Int) by lia] at h
      exact ⟨this, (Tb_nat.mp h).2.2⟩
    · right
      have : f' + 1 < F := by have := h.on; unfold Onb at this; lia
      rw [show ((f' : Int) + 1) = ((f' + 1 : Nat) : Int) by lia] at h
      exact ⟨this, (Tb_nat.mp h).2.2⟩
end Mine
end

section
set_option linter.unusedSimpArgs false
namespace Mine
open PySem.Builtin

noncomputable def On (F R : Nat) (sd : Int) (b : Nat) (p : Int × Int) : Prop := Tb F R b p.1 (rl R sd p.2)
theorem onb_rl {F R : Nat} {sd : Int} {p : Int × Int} : Onb F R p.1 (rl R sd p.2) ↔ OnB F R p := by
  unfold Onb OnB rl; split <;> constructor <;> intro h <;> lia
theorem rl_sub {R : Nat} {sd x d : Int} : rl R sd (x - d) = rl R sd x - eps sd * d := by
  unfold rl eps; split <;> lia
theorem eps_other {sd : Int} (hs : sd = 0 ∨ sd = 1) : eps (1 - sd) = -eps sd := by
  rcases hs with rfl | rfl <;> rfl
theorem On.on {F R b : Nat} {sd : Int} {p : Int × Int} (h : On F R sd b p) : OnB F R p := onb_rl.mp h.1
section
variable {F R b a : Nat} {sd : Int} {p : Int × Int}
theorem On_and : On F R sd (a &&& b) p ↔ On F R sd a p ∧ On F R sd b p := Tb_and
theorem On_or : On F R sd (a ||| b) p ↔ On F R sd a p ∨ On F R sd b p := Tb_or
theorem On_andn : On F R sd (andn a b) p ↔ On F R sd a p ∧ ¬ On F R sd b p := Tb_andn
theorem On_up (hb : b < 2 ^ (F * R)) : On F R sd (up F R b sd) p ↔ OnB F R p ∧ On F R sd b (p.1, p.2 - 1) := by
  unfold On; rw [Tb_up hb, onb_rl, rl_sub, Int.mul_one]
theorem On_dn (hs : sd = 0 ∨ sd = 1) (hb : b < 2 ^ (F * R)) : On F R sd (up F R b (1 - sd)) p ↔ OnB F R p ∧ On F R sd b (p.1, p.2 + 1) := by
  unfold On; rw [Tb_up hb, onb_rl, eps_other hs, show p.2 + 1 = p.2 - (-1) by lia, rl_sub]
  rw [show eps sd * -1 = -eps sd by lia]
theorem On_nb (S : Shape F R) (hb : b < 2 ^ (F * R)) : On F R sd (nb F R b) p ↔ OnB F R p ∧ (On F R sd b (p.1 - 1, p.2) ∨ On F R sd b (p.1 + 1, p.2)) := by
  unfold On; rw [Tb_nb S hb, onb_rl]
theorem On_fill (S : Shape F R) (hb : b < 2 ^ (F * R)) : On F R sd (fill F R b sd) p ↔ OnB F R p ∧ ∃ j : Nat, On F R sd b (p.1, p.2 - j) := by
  unfold On; rw [Tb_fill S hb, onb_rl]; simp only [rl_sub]
theorem On_fillR (S : Shape F R) (hs : sd = 0 ∨ sd = 1) (hb : b < 2 ^ (F * R)) : On F R sd (fill F R b (1 - sd)) p ↔ OnB F R p ∧ ∃ j : Nat, On F R sd b (p.1, p.2 + j) := by
  unfold On; rw [Tb_fill S hb, onb_rl, eps_other hs]
  have e : ∀ j : Nat, rl R sd (p.2 + j) = rl R sd p.2 - -eps sd * j := fun j => by
    rw [show p.2 + (j : Int) = p.2 - (-(j : Int)) by lia, rl_sub, Int.mul_neg, Int.neg_mul]
  simp only [e]
theorem On_front (S : Shape F R) (hb : b < 2 ^ (F * R)) : On F R sd (front F R b sd) p ↔ OnB F R p ∧ ∃ j : Nat, On F R sd b (p.1, p.2 - 1 - j) := by
  unfold front
  rw [On_up (fill_lt hb), On_fill S hb]
  constructor
  · rintro ⟨h1, _, h2⟩; exact ⟨h1, h2⟩
  · rintro ⟨h1, j, h2⟩
    refine ⟨h1, ?_, j, h2⟩
    have h3 := h2.on
    unfold OnB at h1 h3 ⊢
    dsimp only at h3 ⊢; lia
theorem On_frontR (S : Shape F R) (hs : sd = 0 ∨ sd = 1) (hb : b < 2 ^ (F * R)) : On F R sd (front F R b (1 - sd)) p ↔ OnB F R p ∧ ∃ j : Nat, On F R sd b (p.1, p.2 + 1 + j) := by
  unfold front
  rw [On_dn hs (fill_lt hb), On_fillR S hs hb]
  constructor
  · rintro ⟨h1, _, h2⟩; exact ⟨h1, h2⟩
  · rintro ⟨h1, j, h2⟩
    refine ⟨h1, ?_, j, h2⟩
    have h3 := h2.on
    unfold OnB at h1 h3 ⊢
    dsimp only at h3 ⊢; lia
theorem On_idx : On F R sd b p ↔ OnB F R p ∧ b.testBit (idx F R sd p).toNat = true := by
  unfold On Tb; rw [onb_rl]; rfl
theorem rl_rl {x : Int} : rl R sd (rl R sd x) = x := by unfold rl; split <;> lia
theorem rk_rl {s : Nat} : rk F R sd s = rl R sd ((s / F : Nat) : Int) := rfl
theorem crd_on (S : Shape F R) {s : Nat} (h : s < F * R) : OnB F R (crd F R sd s) := by
  have h3 := rk_range (sd := sd) S h
  have h4 := Nat.mod_lt s (show 0 < F by have := S.f2; lia)
  unfold OnB crd; dsimp only; lia
theorem idx_crd {s : Nat} : idx F R sd (crd F R sd s) = (s : Int) := by
  unfold idx crd
  dsimp only
  rw [rk_rl, rl_rl]
  have := Nat.mod_add_div s F
  have e : ((s / F : Nat) : Int) * (F : Int) + ((s % F : Nat) : Int) = ((s / F * F + s % F : Nat) : Int) := by rw [Int.natCast_add, Int.natCast_mul]
  rw [e, Nat.mul_comm]; lia
theorem crd_idx (S : Shape F R) {s : Nat} (h : OnB F R p) (e : idx F R sd p = (s : Int)) : crd F R sd s = p := by
  obtain ⟨h1, h2, h3, h4⟩ := h
  obtain ⟨h5, h6⟩ := rl_range (sd := sd) ⟨h3, h4⟩
  unfold idx at e
  obtain ⟨q, hq⟩ := Int.eq_ofNat_of_zero_le h5
  obtain ⟨f, hf⟩ := Int.eq_ofNat_of_zero_le h1
  have hF := S.f2
  rw [hq, hf, ← Int.natCast_mul, ← Int.natCast_add] at e
  have e' : s = q * F + f := by lia
  have hf' : f < F := by lia
  have e1 : s % F = f := by rw [e', Nat.add_comm, Nat.add_mul_mod_self_right, Nat.mod_eq_of_lt hf']
  have e2 : s / F = q := by rw [e', Nat.add_comm, Nat.add_mul_div_right _ _ (by lia), Nat.div_eq_of_lt hf', yy7]
  unfold crd
  rw [rk_rl, e1, e2, ← hq, rl_rl]
  exact Prod.ext hf.symm rfl
theorem On_crd (S : Shape F R) {s : Nat} (h : s < F * R) : On F R sd b (crd F R sd s) ↔ b.testBit s = true := by
  rw [On_idx, idx_crd, Int.toNat_natCast]
  exact ⟨fun x => x.2, fun x => ⟨crd_on S h, x⟩⟩
theorem lawN_eq (S : Shape F R) (hb : b < 2 ^ (F * R)) {P : List (Int × Int)} (h : ∀ p, p ∈ P ↔ On F R sd b p) : lawN F R sd P = b := by
  apply Nat.eq_of_testBit_eq
  intro i
  rw [lawN, bsum_bit, Bool.eq_iff_iff, Bool.and_eq_true, yy6]
  constructor
  · rintro ⟨h1, h2⟩
    obtain ⟨p, h3, h4⟩ := List.any_eq_true.mp h2
    rw [yy6] at h4
    have h5 := (On_idx.mp ((h p).mp h3)).2
    rw [h4, Int.toNat_natCast] at h5; exact h5
  · intro h1
    have h2 := bit_lt hb h1
    refine ⟨h2, List.any_eq_true.mpr ⟨crd F R sd i, (h _).mpr ((On_crd S h2).mpr h1), ?_⟩⟩
    rw [idx_crd]; simp
theorem mem_plc (S : Shape F R) {bl : List Nat} {c : Nat} {X : Nat} (hX : ∀ s, X.testBit s = true ↔ s < F * R ∧ val bl s = 1 + 8 * c) : p ∈ plc F R bl sd c ↔ On F R sd X p := by
  unfold plc plcK
  rw [List.mem_map]
  constructor
  · rintro ⟨s, h1, rfl⟩
    obtain ⟨h2, h3⟩ := List.mem_filter.mp h1
    rw [List.mem_range] at h2
    rw [yy6] at h3
    exact (On_crd S h2).mpr ((hX s).mpr ⟨h2, h3⟩)
  · intro h
    obtain ⟨h1, h2⟩ := On_idx.mp h
    have h3 := idx_range (sd := sd) h1
    obtain ⟨s, hs⟩ := Int.eq_ofNat_of_zero_le h3.1
    rw [hs, Int.toNat_natCast] at h2
    obtain ⟨h4, h5⟩ := (hX s).mp h2
    refine ⟨s, List.mem_filter.mpr ⟨List.mem_range.mpr h4, by rw [yy6]; exact h5⟩, crd_idx S h1 hs⟩
theorem ownN_bit {bl : List Nat} (B : Brd F R bl) {c : Nat} (hc : c ≤ 1) (s : Nat) : (ownN F R bl c).testBit s = true ↔ s < F * R ∧ val bl s = 1 + 8 * c := by
  unfold ownN kp sds
  rw [Nat.testBit_and, Bool.and_eq_true, bsum_bit, Bool.and_eq_true, yy6]
  have hv := B.vals s
  have : c = 0 ∨ c = 1 := by lia
  rcases this with rfl | rfl
  · rw [if_pos (show ((0 : Nat) : Int) = 0 from rfl), bsum_bit, Bool.and_eq_true, yy6]
    unfold P1 Q0
    rw [yy6, yy6]; lia
  · rw [if_neg (show ¬ ((1 : Nat) : Int) = 0 by decide), bsum_bit, Bool.and_eq_true, yy6]
    unfold P1 Q1
    rw [yy6, yy6]; lia
end

section
variable {L M : List (Int × Int)} {f r q : Int}
theorem absI_one {a : Int} : absI a = 1 ↔ a = 1 ∨ a = -1 := by unfold absI; split <;> lia
theorem mem_beside : q ∈ besideL f L ↔ (f - 1, q) ∈ L ∨ (f + 1, q) ∈ L := by
  unfold besideL
  rw [List.mem_map]
  constructor
  · rintro ⟨p, h1, rfl⟩
    obtain ⟨h2, h3⟩ := List.mem_filter.mp h1
    rw [yy6, absI_one] at h3
    obtain ⟨x, y⟩ := p
    dsimp only at h3 ⊢
    rcases h3 with h | h
    · right; rw [show f + 1 = x by lia]; exact h2
    · left; rw [show f - 1 = x by lia]; exact h2
  · rintro (h | h)
    · exact ⟨_, List.mem_filter.mpr ⟨h, by rw [yy6, absI_one]; dsimp only; lia⟩, rfl⟩
    · exact ⟨_, List.mem_filter.mpr ⟨h, by rw [yy6, absI_one]; dsimp only; lia⟩, rfl⟩
theorem mem_guards : q ∈ guardsL f r M ↔ ((f - 1, q) ∈ M ∨ (f + 1, q) ∈ M) ∧ r < q := by
  unfold guardsL
  rw [List.mem_map]
  constructor
  · rintro ⟨p, h1, rfl⟩
    obtain ⟨h2, h3⟩ := List.mem_filter.mp h1
    rw [Bool.and_eq_true, yy6, yy6, absI_one] at h3
    obtain ⟨x, y⟩ := p
    dsimp only at h3 ⊢
    refine ⟨?_, h3.2⟩
    rcases h3.1 with h | h
    · right; rw [show f + 1 = x by lia]; exact h2
    · left; rw [show f - 1 = x by lia]; exact h2
  · rintro ⟨h | h, h4⟩
    · exact ⟨_, List.mem_filter.mpr ⟨h, by rw [Bool.and_eq_true, yy6, yy6, absI_one]; dsimp only; lia⟩, rfl⟩
    · exact ⟨_, List.mem_filter.mpr ⟨h, by rw [Bool.and_eq_true, yy6, yy6, absI_one]; dsimp only; lia⟩, rfl⟩
theorem mem_same : q ∈ sameL f r M ↔ (f, q) ∈ M ∧ r < q := by
  unfold sameL
  rw [List.mem_map]
  constructor
  · rintro ⟨p, h1, rfl⟩
    obtain ⟨h2, h3⟩ := List.mem_filter.mp h1
    rw [Bool.and_eq_true, yy6, yy6] at h3
    obtain ⟨x, y⟩ := p
    dsimp only at h3 ⊢
    obtain ⟨rfl, h4⟩ := h3
    exact ⟨h2, h4⟩
  · rintro ⟨h, h4⟩
    exact ⟨_, List.mem_filter.mpr ⟨h, by rw [Bool.and_eq_true, yy6, yy6]; exact ⟨rfl, h4⟩⟩, rfl⟩
theorem mem_helpers : q ∈ helpersL f r L ↔ ((f - 1, q) ∈ L ∨ (f + 1, q) ∈ L) ∧ q ≤ r := by
  unfold helpersL
  rw [List.mem_filter, mem_beside, yy6]
theorem len_zero {α : Type} {l : List α} : decide ((l.length : Int) = 0) = true ↔ ∀ x, x ∉ l := by
  rw [yy6]
  cases l with
  | nil => simp
  | cons a l =>
    constructor
    · intro h; rw [yy0] at h; lia
    · intro h; exact absurd List.mem_cons_self (h a)
theorem len_pos {α : Type} {l : List α} : decide (0 < (l.length : Int)) = true ↔ ∃ x, x ∈ l := by
  rw [yy6]
  cases l with
  | nil => simp
  | cons a l =>
    constructor
    · intro _; exact ⟨a, List.mem_cons_self⟩
    · intro _; rw [yy0]; lia
end
end Mine
end

section
set_option linter.unusedSimpArgs false
namespace Mine
open PySem.Builtin

section
variable {F R own foe : Nat} {sd : Int} {L M : List (Int × Int)} {p : Int × Int}
variable (S : Shape F R) (hs : sd = 0 ∨ sd = 1) (h1 : own < 2 ^ (F * R)) (h2 : foe < 2 ^ (F * R)) (hL : ∀ p, p ∈ L ↔ On F R sd own p) (hM : ∀ p, p ∈ M ↔ On F R sd foe p)
include S h1 hL in
theorem on_nbL : On F R sd (nb F R own) p ↔ OnB F R p ∧ ((p.1 - 1, p.2) ∈ L ∨ (p.1 + 1, p.2) ∈ L) := by
  rw [On_nb S h1, hL, hL]
include S h1 hL in
theorem f_att : p ∈ ahead F R 1 L ↔ On F R sd (up F R (nb F R own) sd) p := by
  rw [mem_ahead, On_up nb_lt, on_nbL S h1 hL]
  constructor
  · rintro ⟨q, hq, h3, h4, h5, h6, h7⟩
    have hb := ((hL q).mp hq).on
    obtain ⟨x, y⟩ := p
    obtain ⟨u, v⟩ := q
    unfold OnB at hb ⊢
    unfold minI at h7
    dsimp only at *
    have hv : y - 1 = v := by split at h7 <;> omega
    have hy : y < R := by split at h7 <;> omega
    refine ⟨⟨h4, h5, by omega, hy⟩, ⟨h4, h5, by omega, by omega⟩, ?_⟩
    rw [hv]
    rcases h3 with e | e
    · right; rw [show x + 1 = u by omega]; exact hq
    · left; rw [show x - 1 = u by omega]; exact hq
  · rintro ⟨h3, h4, h5⟩
    obtain ⟨x, y⟩ := p
    unfold OnB at h3 h4
    unfold minI
    dsimp only at *
    rcases h5 with h5 | h5
    · exact ⟨_, h5, by omega, by omega, by omega, by dsimp only; omega, by dsimp only; split <;> omega⟩
    · exact ⟨_, h5, by omega, by omega, by omega, by dsimp only; omega, by dsimp only; split <;> omega⟩
include S h1 hL in
theorem f_span : p ∈ ahead F R R L ↔ On F R sd (front F R (nb F R own) sd) p := by
  rw [mem_ahead, On_front S nb_lt]
  constructor
  · rintro ⟨q, hq, h3, h4, h5, h6, h7⟩
    have hb := ((hL q).mp hq).on
    obtain ⟨x, y⟩ := p
    obtain ⟨u, v⟩ := q
    unfold OnB at hb ⊢
    unfold minI at h7
    dsimp only at *
    have hy : y < R := by split at h7 <;> omega
    refine ⟨⟨h4, h5, by omega, hy⟩, (y - 1 - v).toNat, ?_⟩
    rw [on_nbL S h1 hL]
    unfold OnB
    dsimp only
    rw [show y - 1 - ((y - 1 - v).toNat : Int) = v by omega]
    refine ⟨⟨h4, h5, by omega, by omega⟩, ?_⟩
    rcases h3 with e | e
    · right; rw [show x + 1 = u by omega]; exact hq
    · left; rw [show x - 1 = u by omega]; exact hq
  · rintro ⟨h3, j, h4⟩
    rw [on_nbL S h1 hL] at h4
    obtain ⟨h4, h5⟩ := h4
    obtain ⟨x, y⟩ := p
    unfold OnB at h3 h4
    unfold minI
    dsimp only at *
    rcases h5 with h5 | h5
    · exact ⟨_, h5, by omega, by omega, by omega, by dsimp only; omega, by dsimp only; split <;> omega⟩
    · exact ⟨_, h5, by omega, by omega, by omega, by dsimp only; omega, by dsimp only; split <;> omega⟩
include S h1 hL in
theorem on_helped (hp : OnB F R p) : On F R sd (fill F R (nb F R own) sd) p ↔ ∃ q, q ∈ helpersL p.1 p.2 L := by
  rw [On_fill S nb_lt]
  constructor
  · rintro ⟨_, j, h⟩
    rw [on_nbL S h1 hL] at h
    exact ⟨_, mem_helpers.mpr ⟨h.2, by dsimp only; omega⟩⟩
  · rintro ⟨q, h⟩
    rw [mem_helpers] at h
    obtain ⟨h3, h4⟩ := h
    refine ⟨hp, (p.2 - q).toNat, ?_⟩
    rw [on_nbL S h1 hL]
    dsimp only
    rw [show p.2 - ((p.2 - q).toNat : Int) = q by omega]
    refine ⟨?_, h3⟩
    rcases h3 with h3 | h3
    · have := ((hL _).mp h3).on; unfold OnB at this hp ⊢; dsimp only at *; omega
    · have := ((hL _).mp h3).on; unfold OnB at this hp ⊢; dsimp only at *; omega
include S hs h1 hL in
theorem on_back (hp : OnB F R p) : On F R sd (fill F R (nb F R own) (1 - sd)) p ↔ ∃ q, ((p.1 - 1, q) ∈ L ∨ (p.1 + 1, q) ∈ L) ∧ p.2 ≤ q := by
  rw [On_fillR S hs nb_lt]
  constructor
  · rintro ⟨_, j, h⟩
    rw [on_nbL S h1 hL] at h
    exact ⟨_, h.2, by dsimp only; omega⟩
  · rintro ⟨q, h3, h4⟩
    refine ⟨hp, (q - p.2).toNat, ?_⟩
    rw [on_nbL S h1 hL]
    dsimp only
    rw [show p.2 + ((q - p.2).toNat : Int) = q by omega]
    refine ⟨?_, h3⟩
    rcases h3 with h3 | h3
    · have := ((hL _).mp h3).on; unfold OnB at this hp ⊢; dsimp only at *; omega
    · have := ((hL _).mp h3).on; unfold OnB at this hp ⊢; dsimp only at *; omega
include hs in
theorem on_both {b : Nat} : On F R sd (fill F R b 0 ||| fill F R b 1) p ↔ On F R sd (fill F R b sd) p ∨ On F R sd (fill F R b (1 - sd)) p := by
  rw [On_or]
  rcases hs with rfl | rfl
  · rfl
  · exact Or.comm
include S hs h1 hL in
theorem fk_iso (hp : OnB F R p) : lwIso p.1 L = true ↔ ¬ On F R sd (fill F R (nb F R own) 0 ||| fill F R (nb F R own) 1) p := by
  unfold lwIso
  rw [len_zero, on_both hs, on_helped S h1 hL hp, on_back S hs h1 hL hp]
  constructor
  · rintro h (⟨q, h3⟩ | ⟨q, h3, _⟩)
    · exact h q (mem_beside.mpr (mem_helpers.mp h3).1)
    · exact h q (mem_beside.mpr h3)
  · intro h q hq
    rcases Int.le_total q p.2 with h3 | h3
    · exact h (.inl ⟨q, mem_helpers.mpr ⟨mem_beside.mp hq, h3⟩⟩)
    · exact h (.inr ⟨q, mem_beside.mp hq, h3⟩)
include S hs h1 hL in
theorem fk_same (hp : OnB F R p) : lwSame p.1 p.2 L = true ↔ On F R sd (front F R own (1 - sd)) p := by
  unfold lwSame
  rw [len_pos, On_frontR S hs h1]
  constructor
  · rintro ⟨q, h⟩
    rw [mem_same] at h
    refine ⟨hp, (q - p.2 - 1).toNat, ?_⟩
    rw [← hL, show p.2 + 1 + ((q - p.2 - 1).toNat : Int) = q by omega]; exact h.1
  · rintro ⟨_, j, h⟩
    rw [← hL] at h
    exact ⟨_, mem_same.mpr ⟨h, by omega⟩⟩
include S hs h2 hM in
theorem fk_stop (hp : OnB F R p) : lwStop p.1 p.2 M = true ↔ On F R sd (up F R (foe ||| up F R (nb F R foe) (1 - sd)) (1 - sd)) p := by
  have hb : foe ||| up F R (nb F R foe) (1 - sd) < 2 ^ (F * R) := Nat.or_lt_two_pow h2 (up_lt nb_lt)
  unfold lwStop
  rw [On_dn hs hb, On_or, On_dn hs nb_lt, on_nbL S h2 hM, Bool.or_eq_true, Bool.or_eq_true, yy6, yy6, yy6, ← hM]
  dsimp only
  rw [show p.2 + 1 + 1 = p.2 + 2 by omega]
  constructor
  · rintro (h | h | h)
    · exact ⟨hp, .inl h⟩
    · have := ((hM _).mp h).on
      refine ⟨hp, .inr ⟨?_, ?_, .inl h⟩⟩ <;> unfold OnB at this hp ⊢ <;> dsimp only at * <;> omega
    · have := ((hM _).mp h).on
      refine ⟨hp, .inr ⟨?_, ?_, .inr h⟩⟩ <;> unfold OnB at this hp ⊢ <;> dsimp only at * <;> omega
  · rintro ⟨_, h | ⟨_, _, h | h⟩⟩
    · exact .inl h
    · exact .inr (.inl h)
    · exact .inr (.inr h)
include S hs h1 hL in
theorem fk_conn (hp : OnB F R p) : lwConn p.1 p.2 L = true ↔ On F R sd (nb F R own ||| up F R (nb F R own) sd) p := by
  unfold lwConn
  rw [On_or, On_up nb_lt, on_nbL S h1 hL, on_nbL S h1 hL, Bool.or_eq_true, yy6, yy6, mem_beside, mem_beside]
  dsimp only
  constructor
  · rintro (h | h)
    · exact .inl ⟨hp, h⟩
    · refine .inr ⟨hp, ?_, h⟩
      rcases h with h | h
      · have := ((hL _).mp h).on
        unfold OnB at this hp ⊢; dsimp only at *; omega
      · have := ((hL _).mp h).on
        unfold OnB at this hp ⊢; dsimp only at *; omega
  · rintro (⟨_, h⟩ | ⟨_, _, h⟩)
    · exact .inl h
    · exact .inr h
include S hs h2 hM in
theorem fk_guard (hp : OnB F R p) : (∃ q, q ∈ guardsL p.1 p.2 M) ↔ On F R sd (front F R (nb F R foe) (1 - sd)) p := by
  rw [On_frontR S hs nb_lt]
  constructor
  · rintro ⟨q, h⟩
    rw [mem_guards] at h
    obtain ⟨h3, h4⟩ := h
    refine ⟨hp, (q - p.2 - 1).toNat, ?_⟩
    rw [on_nbL S h2 hM]
    dsimp only
    rw [show p.2 + 1 + ((q - p.2 - 1).toNat : Int) = q by omega]
    refine ⟨?_, h3⟩
    rcases h3 with h3 | h3
    · have := ((hM _).mp h3).on; unfold OnB at this hp ⊢; dsimp only at *; omega
    · have := ((hM _).mp h3).on; unfold OnB at this hp ⊢; dsimp only at *; omega
  · rintro ⟨_, j, h⟩
    rw [on_nbL S h2 hM] at h
    exact ⟨_, mem_guards.mpr ⟨h.2, by omega⟩⟩
end
end Mine
end

section
set_option linter.unusedSimpArgs false
set_option linter.unusedSectionVars false
namespace Mine
open PySem.Builtin

theorem pc_range {X N : Nat} (hN : N ≤ 64) (hX : X < 2 ^ N) : pc X = ((List.range N).filter fun s => X.testBit s).length := by
  unfold pc
  rw [sq_more N 64 X 0 hX hN, sq_range, List.length_map]
noncomputable def lst (F R : Nat) (sd : Int) (X : Nat) : List (Int × Int) := ((List.range (F * R)).filter fun s => X.testBit s).map (crd F R sd)
theorem pc_count {F R X Y : Nat} {sd : Int} (S : Shape F R) (hX : X < 2 ^ (F * R)) {t : Int × Int → Bool} (h : ∀ p, OnB F R p → (On F R sd Y p ↔ t p = true)) : pc (X &&& Y) = ((lst F R sd X).filter t).length := by
  rw [pc_range S.sz (Nat.lt_of_le_of_lt Nat.and_le_left hX)]
  unfold lst
  rw [List.filter_map, List.length_map, List.filter_filter]
  congr 1
  apply List.filter_congr
  intro s hs
  rw [List.mem_range] at hs
  have h1 := h _ (crd_on (sd := sd) S hs)
  rw [On_crd S hs] at h1
  rw [Nat.testBit_and, Bool.eq_iff_iff, Bool.and_eq_true, Bool.and_eq_true, Function.comp, ← h1]
  exact And.comm
section
variable {L M : List (Int × Int)} {f r : Int}
theorem helpers_len : (helpersL f r L).length = (L.filter fun p => decide (absI (p.1 - f) = 1) && decide (p.2 ≤ r)).length := by
  unfold helpersL besideL
  rw [List.filter_map, List.length_map, List.filter_filter]
  congr 1
  apply List.filter_congr
  intro p _
  rw [Function.comp, Bool.and_comm]
theorem guards_len : (guardsL f r M).length = (M.filter fun p => decide (absI (p.1 - f) = 1) && decide (r < p.2)).length := by
  unfold guardsL; rw [List.length_map]
theorem beside_count {a : Int} : (besideL f L).count a = (L.filter fun p => decide (absI (p.1 - f) = 1) && decide (p.2 = a)).length := by
  unfold besideL
  rw [List.count, List.countP_map, List.countP_eq_length_filter, List.filter_filter]
  congr 1
  apply List.filter_congr
  intro p _
  rw [Function.comp, Bool.and_comm, Bool.eq_iff_iff, Bool.and_eq_true, Bool.and_eq_true, beq_iff_eq, yy6, yy6]
end
section
variable {F R s : Nat} {sd : Int} {p' : Int × Int}
theorem On_bit (S : Shape F R) (h : s < F * R) : On F R sd (1 <<< s) p' ↔ p' = crd F R sd s := by
  rw [On_idx, Nat.one_shiftLeft, Nat.testBit_two_pow, yy6]
  constructor
  · rintro ⟨h1, h2⟩
    have := idx_range (sd := sd) h1
    exact (crd_idx S h1 (by lia)).symm
  · rintro rfl
    rw [idx_crd]
    exact ⟨crd_on S h, by simp⟩
theorem on_nbB (S : Shape F R) (h : s < F * R) : On F R sd (nb F R (1 <<< s)) p' ↔ OnB F R p' ∧ absI (p'.1 - (crd F R sd s).1) = 1 ∧ p'.2 = (crd F R sd s).2 := by
  rw [On_nb S (one_shl_lt h), On_bit S h, On_bit S h, absI_one]
  generalize crd F R sd s = p
  obtain ⟨x, y⟩ := p; obtain ⟨u, v⟩ := p'
  simp only [Prod.mk.injEq]
  constructor
  · rintro ⟨h1, h2⟩; exact ⟨h1, by lia, by lia⟩
  · rintro ⟨h1, h2, h3⟩; exact ⟨h1, by lia⟩
theorem on_upB (S : Shape F R) (hs : sd = 0 ∨ sd = 1) (h : s < F * R) (hp : OnB F R p') : On F R sd (up F R (nb F R (1 <<< s)) (1 - sd)) p' ↔ absI (p'.1 - (crd F R sd s).1) = 1 ∧ p'.2 = (crd F R sd s).2 - 1 := by
  rw [On_dn hs nb_lt, on_nbB S h]
  have hc := crd_on (sd := sd) S h
  generalize crd F R sd s = p at *
  obtain ⟨x, y⟩ := p; obtain ⟨u, v⟩ := p'
  unfold OnB at *
  dsimp only at *
  constructor
  · rintro ⟨_, _, h2, h3⟩; exact ⟨h2, by lia⟩
  · rintro ⟨h2, h3⟩; exact ⟨hp, by lia, h2, by lia⟩
theorem on_fillB (S : Shape F R) (hs : sd = 0 ∨ sd = 1) (h : s < F * R) (hp : OnB F R p') : On F R sd (fill F R (nb F R (1 <<< s)) (1 - sd)) p' ↔ absI (p'.1 - (crd F R sd s).1) = 1 ∧ p'.2 ≤ (crd F R sd s).2 := by
  rw [On_fillR S hs nb_lt]
  have hc := crd_on (sd := sd) S h
  constructor
  · rintro ⟨_, j, h1⟩
    rw [on_nbB S h] at h1
    dsimp only at h1
    exact ⟨h1.2.1, by lia⟩
  · rintro ⟨h2, h3⟩
    refine ⟨hp, ((crd F R sd s).2 - p'.2).toNat, ?_⟩
    rw [on_nbB S h]
    generalize crd F R sd s = p at *
    obtain ⟨x, y⟩ := p; obtain ⟨u, v⟩ := p'
    unfold OnB at *
    dsimp only at *
    exact ⟨by lia, h2, by lia⟩
theorem on_frontB (S : Shape F R) (h : s < F * R) (hp : OnB F R p') : On F R sd (front F R (nb F R (1 <<< s)) sd) p' ↔ absI (p'.1 - (crd F R sd s).1) = 1 ∧ (crd F R sd s).2 < p'.2 := by
  rw [On_front S nb_lt]
  have hc := crd_on (sd := sd) S h
  constructor
  · rintro ⟨_, j, h1⟩
    rw [on_nbB S h] at h1
    dsimp only at h1
    exact ⟨h1.2.1, by lia⟩
  · rintro ⟨h2, h3⟩
    refine ⟨hp, (p'.2 - 1 - (crd F R sd s).2).toNat, ?_⟩
    rw [on_nbB S h]
    generalize crd F R sd s = p at *
    obtain ⟨x, y⟩ := p; obtain ⟨u, v⟩ := p'
    unfold OnB at *
    dsimp only at *
    exact ⟨by lia, h2, by lia⟩
end

section
variable {F R own foe : Nat} {sd : Int}
theorem helps_iff (S : Shape F R) (hs : sd = 0 ∨ sd = 1) (h1 : own < 2 ^ (F * R)) (h2 : foe < 2 ^ (F * R)) {s : Nat} (h : s < F * R) :
    helps F R own foe sd s = decide ((guardsL (crd F R sd s).1 (crd F R sd s).2 (lst F R sd foe)).length ≤ (helpersL (crd F R sd s).1 (crd F R sd s).2 (lst F R sd own)).length) := by
  unfold helps
  rw [pc_count S h2 (t := fun p => decide (absI (p.1 - (crd F R sd s).1) = 1) && decide ((crd F R sd s).2 < p.2)) (fun p hp => by rw [on_frontB S h hp, Bool.and_eq_true, yy6, yy6]),
    pc_count S h1 (t := fun p => decide (absI (p.1 - (crd F R sd s).1) = 1) && decide (p.2 ≤ (crd F R sd s).2)) (fun p hp => by rw [on_fillB S hs h hp, Bool.and_eq_true, yy6, yy6]), ← guards_len, ← helpers_len]
theorem cand_fold {i : Nat} : ∀ (r : List Nat) (f : Nat), (r.foldl (candStep F R own foe sd) f).testBit i = true ↔ f.testBit i = true ∨ (i ∈ r ∧ helps F R own foe sd i = true)
  | [], f => by simp
  | s :: r, f => by
    rw [List.foldl_cons, cand_fold r]
    unfold candStep
    by_cases h : helps F R own foe sd s = true
    · rw [if_pos h, Nat.testBit_or, Nat.one_shiftLeft, Nat.testBit_two_pow, Bool.or_eq_true, yy6, List.mem_cons]
      constructor
      · rintro ((h1 | rfl) | ⟨h1, h2⟩)
        · exact .inl h1
        · exact .inr ⟨.inl rfl, h⟩
        · exact .inr ⟨.inr h1, h2⟩
      · rintro (h1 | ⟨rfl | h1, h2⟩)
        · exact .inl (.inl h1)
        · exact .inl (.inr rfl)
        · exact .inr ⟨h1, h2⟩
    · rw [if_neg h, List.mem_cons]
      constructor
      · rintro (h1 | ⟨h1, h2⟩)
        · exact .inl h1
        · exact .inr ⟨.inr h1, h2⟩
      · rintro (h1 | ⟨rfl | h1, h2⟩)
        · exact .inl h1
        · exact absurd h2 h
        · exact .inr ⟨h1, h2⟩
theorem sq_mem64 {X s : Nat} (S : Shape F R) (hX : X < 2 ^ (F * R)) : s ∈ sq 64 X 0 ↔ X.testBit s = true := by
  constructor
  · intro h; simpa using (sq_mem h).2.2
  · intro h
    have hl := bit_lt hX h
    have hsz := S.sz
    rw [sq_range, List.mem_map]
    exact ⟨s, List.mem_filter.mpr ⟨List.mem_range.mpr (by lia), h⟩, rfl⟩
theorem cand_bit (S : Shape F R) (h1 : own < 2 ^ (F * R)) {i : Nat} : (cand F R own foe sd).testBit i = true ↔ own.testBit i = true ∧ helps F R own foe sd i = true := by
  unfold cand
  rw [cand_fold, sq_mem64 S h1, Nat.zero_testBit]; simp
theorem mem_lst {X : Nat} (S : Shape F R) (p : Int × Int) : p ∈ lst F R sd X ↔ On F R sd X p := by
  unfold lst
  rw [List.mem_map]
  constructor
  · rintro ⟨s, h1, rfl⟩
    obtain ⟨h2, h3⟩ := List.mem_filter.mp h1
    rw [List.mem_range] at h2
    exact (On_crd S h2).mpr h3
  · intro h
    obtain ⟨h1, h2⟩ := On_idx.mp h
    have h3 := idx_range (sd := sd) h1
    obtain ⟨s, hs⟩ := Int.eq_ofNat_of_zero_le h3.1
    rw [hs, Int.toNat_natCast] at h2
    exact ⟨s, List.mem_filter.mpr ⟨List.mem_range.mpr (by lia), h2⟩, crd_idx S h1 hs⟩

variable (S : Shape F R) (hs : sd = 0 ∨ sd = 1) (h1 : own < 2 ^ (F * R)) (h2 : foe < 2 ^ (F * R))
include S hs h1 h2
variable {p : Int × Int}
theorem x_iso : On F R sd (factsOf F R own foe sd).isolated p ↔ p ∈ lst F R sd own ∧ lwIso p.1 (lst F R sd own) = true := by
  show On F R sd (andn own _) p ↔ _
  rw [On_andn, mem_lst S]
  constructor
  · rintro ⟨a, b⟩; exact ⟨a, (fk_iso S hs h1 (mem_lst S) a.on).mpr b⟩
  · rintro ⟨a, b⟩; exact ⟨a, (fk_iso S hs h1 (mem_lst S) a.on).mp b⟩
theorem x_dbl : On F R sd (factsOf F R own foe sd).doubled p ↔ p ∈ lst F R sd own ∧ lwSame p.1 p.2 (lst F R sd own) = true := by
  show On F R sd (own &&& _) p ↔ _
  rw [On_and, mem_lst S]
  constructor
  · rintro ⟨a, b⟩; exact ⟨a, (fk_same S hs h1 (mem_lst S) a.on).mpr b⟩
  · rintro ⟨a, b⟩; exact ⟨a, (fk_same S hs h1 (mem_lst S) a.on).mp b⟩
theorem x_opp : On F R sd (factsOf F R own foe sd).opposed p ↔ p ∈ lst F R sd own ∧ lwSame p.1 p.2 (lst F R sd foe) = true := by
  show On F R sd (own &&& _) p ↔ _
  rw [On_and, mem_lst S]
  constructor
  · rintro ⟨a, b⟩; exact ⟨a, (fk_same S hs h2 (mem_lst S) a.on).mpr b⟩
  · rintro ⟨a, b⟩; exact ⟨a, (fk_same S hs h2 (mem_lst S) a.on).mp b⟩
theorem x_conn : On F R sd (factsOf F R own foe sd).connected p ↔ p ∈ lst F R sd own ∧ lwConn p.1 p.2 (lst F R sd own) = true := by
  show On F R sd (own &&& _) p ↔ _
  rw [On_and, mem_lst S]
  constructor
  · rintro ⟨a, b⟩; exact ⟨a, (fk_conn S hs h1 (mem_lst S) a.on).mpr b⟩
  · rintro ⟨a, b⟩; exact ⟨a, (fk_conn S hs h1 (mem_lst S) a.on).mp b⟩
theorem x_back : On F R sd (factsOf F R own foe sd).backward p ↔ p ∈ lst F R sd own ∧ lwBack p.1 p.2 (lst F R sd own) (lst F R sd foe) = true := by
  have hi := x_iso S hs h1 h2 (p := p)
  show On F R sd (andn (andn own _) (factsOf F R own foe sd).isolated &&& _) p ↔ _
  rw [On_and, On_andn, On_andn, hi, mem_lst S]
  unfold lwBack
  rw [Bool.and_eq_true, Bool.and_eq_true, Bool.not_eq_true', len_zero]
  constructor
  · rintro ⟨⟨⟨a, b⟩, c⟩, d⟩
    refine ⟨a, ?_, ?_, (fk_stop S hs h2 (mem_lst S) a.on).mpr d⟩
    · rw [← Bool.not_eq_true]; exact fun e => c ⟨a, e⟩
    · intro q hq; exact b ((on_helped S h1 (mem_lst S) a.on).mpr ⟨q, hq⟩)
  · rintro ⟨a, b, c, d⟩
    refine ⟨⟨⟨a, fun e => ?_⟩, fun e => ?_⟩, (fk_stop S hs h2 (mem_lst S) a.on).mp d⟩
    · obtain ⟨q, hq⟩ := (on_helped S h1 (mem_lst S) a.on).mp e
      exact c q hq
    · rw [e.2] at b; cases b
theorem x_lone : On F R sd (andn (andn own (factsOf F R own foe sd).doubled) (factsOf F R own foe sd).opposed) p ↔ p ∈ lst F R sd own ∧ lwLone p.1 p.2 (lst F R sd own) (lst F R sd foe) = true := by
  rw [On_andn, On_andn, x_dbl S hs h1 h2, x_opp S hs h1 h2, mem_lst S]
  unfold lwLone
  rw [Bool.and_eq_true, Bool.not_eq_true', Bool.not_eq_true']
  constructor
  · rintro ⟨⟨a, b⟩, c⟩
    exact ⟨a, by rw [← Bool.not_eq_true]; exact fun e => b ⟨a, e⟩, by rw [← Bool.not_eq_true]; exact fun e => c ⟨a, e⟩⟩
  · rintro ⟨a, b, c⟩
    exact ⟨⟨a, fun e => by rw [e.2] at b; cases b⟩, fun e => by rw [e.2] at c; cases c⟩
theorem x_pass : On F R sd (factsOf F R own foe sd).passed p ↔ p ∈ lst F R sd own ∧ lwPass p.1 p.2 (lst F R sd own) (lst F R sd foe) = true := by
  show On F R sd (andn (andn (andn own (factsOf F R own foe sd).doubled) (factsOf F R own foe sd).opposed) _) p ↔ _
  rw [On_andn, x_lone S hs h1 h2]
  unfold lwPass
  rw [Bool.and_eq_true, len_zero]
  constructor
  · rintro ⟨⟨a, b⟩, c⟩
    refine ⟨a, b, fun q hq => c ((fk_guard S hs h2 (mem_lst S) ((mem_lst S p).mp a).on).mp ⟨q, hq⟩)⟩
  · rintro ⟨a, b, c⟩
    refine ⟨⟨a, b⟩, fun e => ?_⟩
    obtain ⟨q, hq⟩ := (fk_guard S hs h2 (mem_lst S) ((mem_lst S p).mp a).on).mpr e
    exact c q hq
theorem x_cand : On F R sd (factsOf F R own foe sd).candidates p ↔ p ∈ lst F R sd own ∧ lwCand p.1 p.2 (lst F R sd own) (lst F R sd foe) = true := by
  show On F R sd (cand F R own foe sd &&& andn (andn (andn own (factsOf F R own foe sd).doubled) (factsOf F R own foe sd).opposed) (factsOf F R own foe sd).passed) p ↔ _
  rw [On_and, On_andn, x_lone S hs h1 h2, x_pass S hs h1 h2]
  have key : ∀ a : p ∈ lst F R sd own, (On F R sd (cand F R own foe sd) p ↔ (guardsL p.1 p.2 (lst F R sd foe)).length ≤ (helpersL p.1 p.2 (lst F R sd own)).length) := by
    intro a
    have ho := (mem_lst S p).mp a
    obtain ⟨h3, h4⟩ := On_idx.mp ho
    have h5 := idx_range (sd := sd) h3
    obtain ⟨s, hs'⟩ := Int.eq_ofNat_of_zero_le h5.1
    have hsN : s < F * R := by lia
    have e := crd_idx S h3 hs'
    rw [hs', Int.toNat_natCast] at h4
    rw [← e, On_crd S hsN, cand_bit S h1, helps_iff S hs h1 h2 hsN, yy6]
    exact ⟨fun x => x.2, fun x => ⟨h4, x⟩⟩
  unfold lwCand lwPass
  rw [Bool.and_eq_true, Bool.and_eq_true, Bool.and_eq_true, len_pos, len_zero, yy6]
  constructor
  · rintro ⟨a, ⟨b, c⟩, d⟩
    refine ⟨b, c, ?_, by have := (key b).mp a; lia⟩
    rcases Classical.em (∃ x, x ∈ guardsL p.1 p.2 (lst F R sd foe)) with h | h
    · exact h
    · exact absurd ⟨b, c, fun x hx => h ⟨x, hx⟩⟩ d
  · rintro ⟨a, b, c, d⟩
    refine ⟨(key a).mpr (by lia), ⟨a, b⟩, fun e => ?_⟩
    obtain ⟨x, hx⟩ := c
    exact e.2.2 x hx
end
end Mine
end

section
set_option linter.unusedSimpArgs false
set_option linter.unusedSectionVars false
namespace Mine
open PySem.Builtin

theorem pc_pos {x : Nat} (h : x ≠ 0) (hx : x < 2 ^ 64) : 0 < pc x := by
  have := sq_clear 64 x 0 (by lia) hx
  have e : (sq 64 x 0).length = pc x := rfl
  lia
section
variable {F R own foe : Nat} {sd : Int} {s : Nat}
variable (S : Shape F R) (hs : sd = 0 ∨ sd = 1) (h1 : own < 2 ^ (F * R)) (h2 : foe < 2 ^ (F * R)) (h : s < F * R)
include S hs h1 h2 h
theorem phal_eq : phal F R (factsOf F R own foe sd) s = minI 1 (((besideL (crd F R sd s).1 (lst F R sd own)).count (crd F R sd s).2 : Nat) : Int) := by
  have e : pc (own &&& nb F R (1 <<< s)) = (besideL (crd F R sd s).1 (lst F R sd own)).count (crd F R sd s).2 := by
    rw [beside_count]
    exact pc_count S h1 fun p hp => by rw [on_nbB S h, Bool.and_eq_true, yy6, yy6]; exact ⟨fun x => x.2, fun x => ⟨hp, x⟩⟩
  unfold phal minI
  show (if (nb F R (1 <<< s) &&& own) = 0 then (0 : Int) else 1) = _
  rw [Nat.and_comm, ← e]
  by_cases h0 : own &&& nb F R (1 <<< s) = 0
  · rw [if_pos h0, h0, pc_zero]; rfl
  · have := pc_pos h0 (Nat.lt_of_le_of_lt Nat.and_le_left (S.lt64 h1))
    rw [if_neg h0, if_neg (by lia)]
theorem guards_eq : pc (up F R (nb F R (1 <<< s)) (1 - sd) &&& own) = (besideL (crd F R sd s).1 (lst F R sd own)).count ((crd F R sd s).2 - 1) := by
  rw [Nat.and_comm, beside_count]
  exact pc_count S h1 fun p hp => by rw [on_upB S hs h hp, Bool.and_eq_true, yy6, yy6]
theorem bit_eq {X : Nat} {b : Bool} (hX : ∀ p, On F R sd X p ↔ p ∈ lst F R sd own ∧ (p = crd F R sd s → b = true) ∧ (p = crd F R sd s → True)) (ho : own.testBit s = true) : X.testBit s = b := by
  rw [Bool.eq_iff_iff, ← On_crd (sd := sd) S h, hX, mem_lst S, On_crd S h]
  exact ⟨fun x => x.2.1 rfl, fun x => ⟨ho, fun _ => x, fun _ => trivial⟩⟩
end
theorem bit_is {F R own X s : Nat} {sd : Int} {b : Bool} (S : Shape F R) (h : s < F * R) (ho : own.testBit s = true) (hX : On F R sd X (crd F R sd s) ↔ crd F R sd s ∈ lst F R sd own ∧ b = true) : X.testBit s = b := by
  rw [On_crd S h, mem_lst S, On_crd S h] at hX
  rw [Bool.eq_iff_iff, hX]
  exact ⟨fun x => x.2, fun x => ⟨ho, x⟩⟩
theorem eg_eq {v r : Int} (hv : 0 ≤ v) (hr : 1 ≤ r ∧ r ≤ 7) : divI (v * (r - 2)) = lsEg v r := by
  unfold divI lsEg
  have : r = 1 ∨ r = 2 ∨ r = 3 ∨ r = 4 ∨ r = 5 ∨ r = 6 ∨ r = 7 := by lia
  rcases this with rfl | rfl | rfl | rfl | rfl | rfl | rfl
  · rw [if_neg (by decide : ¬ (1 : Int) < 1)]
    rw [show v * (1 - 2) = -v by lia]
    by_cases h0 : v = 0
    · subst h0; rfl
    · rw [if_pos (by lia), Int.neg_neg]
  all_goals
    rw [if_neg (by lia), if_pos (by decide)]
theorem step_eq {b : Bool} {s m e dm de : Int} (h : s = m + 65536 * e) : (if b = true then s + (de * 65536 + dm) else s) = (if b = true then m + dm else m) + 65536 * (if b = true then e + de else e) := by
  cases b
  · simpa using h
  · simp only [if_true]; lia
theorem score_eq {F R own foe s : Nat} {sd : Int} (S : Shape F R) (hs : sd = 0 ∨ sd = 1) (h1 : own < 2 ^ (F * R)) (h2 : foe < 2 ^ (F * R)) (ho : own.testBit s = true) (hr : 1 ≤ rk F R sd s) :
    opS F R (factsOf F R own foe sd) sd s = scoreV (lst F R sd own) (lst F R sd foe) (crd F R sd s) := by
  have h := bit_lt h1 ho
  have hr2 := rk_range (sd := sd) S h
  have hR := S.r8
  have hph := phal_eq S hs h1 h2 h
  have hgu := guards_eq S hs h1 h2 h
  have hcv := cV_range (x := factsOf F R own foe sd) (sd := sd) S h
  have b1 := bit_is S h ho (x_iso S hs h1 h2)
  have b2 := bit_is S h ho (x_dbl S hs h1 h2)
  have b3 := bit_is S h ho (x_back S hs h1 h2)
  have b4 := bit_is S h ho (x_conn S hs h1 h2)
  have b5 := bit_is S h ho (x_opp S hs h1 h2)
  have b6 := bit_is S h ho (x_pass S hs h1 h2)
  have b7 := bit_is S h ho (x_cand S hs h1 h2)
  have er : (crd F R sd s).2 = rk F R sd s := rfl
  have hmg : ∀ opp : Bool, (factsOf F R own foe sd).opposed.testBit s = opp → cV F R (factsOf F R own foe sd) sd s = lsMg (crd F R sd s).1 (crd F R sd s).2 (lst F R sd own) (if opp = true then 0 else 1) := by
    intro opp hopp
    unfold cV lsMg oppd
    rw [hopp, hph, er]
    have e : (factsOf F R own foe sd).own = own := rfl
    rw [e, hgu, er]
    generalize minI 1 (((besideL (crd F R sd s).1 (lst F R sd own)).count (rk F R sd s) : Nat) : Int) = m
    congr 2
    cases opp
    · rw [if_neg (by decide), if_neg (by decide)]; lia
    · rw [if_pos rfl, if_pos rfl]; lia
  unfold scoreV
  have hm := hmg _ b5
  have heg : divI (cV F R (factsOf F R own foe sd) sd s * (rk F R sd s - 2)) = lsEg (cV F R (factsOf F R own foe sd) sd s) (rk F R sd s) := eg_eq hcv.1 (by lia)
  unfold opS cScore lawScore
  dsimp only
  rw [b1, b2, b3, b4, b5, b6, b7, heg, hm, er]
  generalize lwIso (crd F R sd s).1 (lst F R sd own) = iso
  generalize lwSame (crd F R sd s).1 (rk F R sd s) (lst F R sd own) = dbl
  generalize lwBack (crd F R sd s).1 (rk F R sd s) (lst F R sd own) (lst F R sd foe) = back
  generalize lwConn (crd F R sd s).1 (rk F R sd s) (lst F R sd own) = conn
  generalize lwSame (crd F R sd s).1 (rk F R sd s) (lst F R sd foe) = opp
  generalize lwPass (crd F R sd s).1 (rk F R sd s) (lst F R sd own) (lst F R sd foe) = pass
  generalize lwCand (crd F R sd s).1 (rk F R sd s) (lst F R sd own) (lst F R sd foe) = can
  generalize (if opp = true then (0 : Int) else 1) = free
  generalize rk F R sd s = r
  generalize lsMg (crd F R sd s).1 r (lst F R sd own) free = v
  have k0 : (if conn = true then 0 + (lsEg v r * 65536 + v) else 0) = (if conn = true then v else 0) + 65536 * (if conn = true then lsEg v r else 0) := by
    cases conn
    · simp
    · simp only [if_true]; lia
  rw [k0]
  generalize (if conn = true then v else 0) = m0
  generalize (if conn = true then lsEg v r else 0) = e0
  have sb : ∀ (b : Bool) (m e dm de : Int), (if b = true then (m + 65536 * e) - (de * 65536 + dm) else m + 65536 * e) = (if b = true then m - dm else m) + 65536 * (if b = true then e - de else e) := by
    intro b m e dm de
    cases b
    · simp
    · simp only [if_true]; lia
  have ad : ∀ (b : Bool) (m e dm de : Int), (if b = true then (m + 65536 * e) + (de * 65536 + dm) else m + 65536 * e) = (if b = true then m + dm else m) + 65536 * (if b = true then e + de else e) := by
    intro b m e dm de
    cases b
    · simp
    · simp only [if_true]; lia
  have c1 : ∀ m : Int, m - 5 - 12 * free = m - (5 + 12 * free) := fun m => by lia
  have c2 : ∀ m : Int, m - 15 - 11 * free = m - (15 + 11 * free) := fun m => by lia
  have c3 : ∀ m : Int, m - 9 - 12 * free = m - (9 + 12 * free) := fun m => by lia
  have c4 : ∀ m : Int, m - 24 - 11 * free = m - (24 + 11 * free) := fun m => by lia
  have c5 : (6 * r + 5) * r = 6 * r * r + 5 * r := Int.add_mul _ _ _
  rw [sb, sb, sb, ad, ad]
  simp only [c1, c2, c3, c4, c5]
end Mine
end

section
set_option linter.unusedSimpArgs false
set_option linter.unusedSectionVars false
namespace Mine
open PySem.Builtin

section
variable {F R own foe : Nat} {sd : Int}
variable (S : Shape F R) (hs : sd = 0 ∨ sd = 1) (h1 : own < 2 ^ (F * R)) (h2 : foe < 2 ^ (F * R))
include S hs h1 h2
theorem fk_eq {k X : Nat} {b : Int × Int → Bool} (hX : X ≤ own) (hk : ∀ p, factK (lst F R sd own) (lst F R sd foe) k p = b p) (h : ∀ p, On F R sd X p ↔ p ∈ lst F R sd own ∧ b p = true) : seenK F R sd (lst F R sd own) (lst F R sd foe) k = (X : Int) := by
  unfold seenK
  congr 1
  refine lawN_eq S (Nat.lt_of_le_of_lt hX h1) fun p => ?_
  rw [List.mem_filter, hk, h]
theorem seen_eq : seen3 F R sd (lst F R sd own) ++ seenKs F R sd (lst F R sd own) (lst F R sd foe) 0 7 = toldX (factsOf F R own foe sd) := by
  have e0 : lawN F R sd (lst F R sd own) = own := lawN_eq S h1 fun p => mem_lst S p
  have e1 : lawN F R sd (ahead F R 1 (lst F R sd own)) = up F R (nb F R own) sd := lawN_eq S (up_lt nb_lt) fun p => f_att S h1 (mem_lst S)
  have e2 : lawN F R sd (ahead F R R (lst F R sd own)) = front F R (nb F R own) sd := lawN_eq S (front_lt nb_lt) fun p => f_span S h1 (mem_lst S)
  have k0 := fk_eq S hs h1 h2 (k := 0) (X := (factsOf F R own foe sd).isolated) (b := fun p => lwIso p.1 (lst F R sd own)) (andn_le _ _) (fun p => rfl) (fun p => x_iso S hs h1 h2)
  have k1 := fk_eq S hs h1 h2 (k := 1) (X := (factsOf F R own foe sd).doubled) (b := fun p => lwSame p.1 p.2 (lst F R sd own)) Nat.and_le_left (fun p => rfl) (fun p => x_dbl S hs h1 h2)
  have k2 := fk_eq S hs h1 h2 (k := 2) (X := (factsOf F R own foe sd).backward) (b := fun p => lwBack p.1 p.2 (lst F R sd own) (lst F R sd foe)) (Nat.le_trans Nat.and_le_left (Nat.le_trans (andn_le _ _) (andn_le _ _))) (fun p => rfl) (fun p => x_back S hs h1 h2)
  have k3 := fk_eq S hs h1 h2 (k := 3) (X := (factsOf F R own foe sd).connected) (b := fun p => lwConn p.1 p.2 (lst F R sd own)) Nat.and_le_left (fun p => rfl) (fun p => x_conn S hs h1 h2)
  have k4 := fk_eq S hs h1 h2 (k := 4) (X := (factsOf F R own foe sd).opposed) (b := fun p => lwSame p.1 p.2 (lst F R sd foe)) Nat.and_le_left (fun p => rfl) (fun p => x_opp S hs h1 h2)
  have k5 := fk_eq S hs h1 h2 (k := 5) (X := (factsOf F R own foe sd).passed) (b := fun p => lwPass p.1 p.2 (lst F R sd own) (lst F R sd foe)) (Nat.le_trans (andn_le _ _) (Nat.le_trans (andn_le _ _) (andn_le _ _))) (fun p => rfl) (fun p => x_pass S hs h1 h2)
  have k6 := fk_eq S hs h1 h2 (k := 6) (X := (factsOf F R own foe sd).candidates) (b := fun p => lwCand p.1 p.2 (lst F R sd own) (lst F R sd foe)) (Nat.le_trans Nat.and_le_right (Nat.le_trans (andn_le _ _) (Nat.le_trans (andn_le _ _) (andn_le _ _)))) (fun p => rfl) (fun p => x_cand S hs h1 h2)
  unfold seen3
  simp only [seenKs, yy7, Nat.reduceAdd]
  rw [e0, e1, e2, k0, k1, k2, k3, k4, k5, k6]
  rfl
end
theorem plc_lst {F R : Nat} {bl : List Nat} (B : Brd F R bl) {sd : Int} {c : Nat} (hc : c ≤ 1) : plc F R bl sd c = lst F R sd (ownN F R bl c) := by
  unfold plc plcK lst
  congr 1
  apply List.filter_congr
  intro s hs
  rw [List.mem_range] at hs
  have := ownN_bit B hc s
  rw [Bool.eq_iff_iff, yy6, this]
  exact ⟨fun x => ⟨hs, x⟩, fun x => x.2⟩
theorem sq_is {F R X : Nat} (S : Shape F R) (hX : X < 2 ^ (F * R)) : sq 64 X 0 = (List.range (F * R)).filter fun s => X.testBit s := by
  rw [sq_more (F * R) 64 X 0 hX S.sz, sq_range]
  simp
theorem rk_pos {F R : Nat} (S : Shape F R) {sd : Int} {s : Nat} (h : F ≤ s ∧ s + F < F * R) : 1 ≤ rk F R sd s := by
  have hF := S.f2; have hR := S.r3
  have a : 1 ≤ s / F := Nat.div_pos h.1 (by lia)
  have b : s / F < R - 1 := Nat.div_lt_of_lt_mul (by rw [Nat.mul_sub, Nat.mul_one]; lia)
  have a' : (1 : Int) ≤ ((s / F : Nat) : Int) := by exact_mod_cast a
  have b' : ((s / F : Nat) : Int) < ((R - 1 : Nat) : Int) := by exact_mod_cast b
  unfold rk
  generalize ((s / F : Nat) : Int) = q at *
  split <;> lia
theorem mathOK : MathOK := by
  intro F R bl c S B hc
  have hs : (c : Int) = 0 ∨ (c : Int) = 1 := by lia
  have h1 : ownN F R bl c < 2 ^ (F * R) := Nat.lt_of_le_of_lt Nat.and_le_left (bsum_lt _ _)
  have h2 : ownN F R bl (1 - c : Nat) < 2 ^ (F * R) := Nat.lt_of_le_of_lt Nat.and_le_left (bsum_lt _ _)
  have ec : (1 : Int) - (c : Int) = ((1 - c : Nat) : Int) := by lia
  unfold told fxOf seenL
  rw [ec, plc_lst B hc, plc_lst B (show 1 - c ≤ 1 by lia), seen_eq S hs h1 h2]
  congr 2
  rw [sq_is S h1]
  unfold lst
  rw [List.map_map]
  congr 1
  apply List.map_congr_left
  intro s hm
  have ho := (List.mem_filter.mp hm).2
  have hv := ((ownN_bit B hc s).mp ho).2
  exact score_eq S hs h1 h2 ho (rk_pos S (B.pawns s (by lia)))
end Mine
end

section
open PySem PySem.W PyProof.Rows
set_option maxRecDepth 100000
namespace Mine
noncomputable def theN : Nms := {
  gn := ["WHITE", "BLACK", "PAWN", "EMPTY", "STEP_FILES", "STEP_RANKS"].map Str.ofString
  fn := [some (Str.ofString "count_bits"), some (Str.ofString "squares_of"), some (Str.ofString "own_rank"), some (Str.ofString "divide"), some (Str.ofString "make_score"), none, some (Str.ofString "pawns_of"), some (Str.ofString "shift_up"), some (Str.ofString "neighbours"), some (Str.ofString "fill_up"), some (Str.ofString "front_span"), some (Str.ofString "attack_span"), some (Str.ofString "pawn_attacks"), some (Str.ofString "candidates_of"), some (Str.ofString "pawn_facts"), some (Str.ofString "connected_score"), some (Str.ofString "one_pawn_score"), some (Str.ofString "pawn_score"), none, some (Str.ofString "is_growing"), some (Str.ofString "add_masks"), some (Str.ofString "inner_squares"), some (Str.ofString "add_rays"), some (Str.ofString "add_pawns"), some (Str.ofString "add_knights"), some (Str.ofString "add_castles"), some (Str.ofString "make_geometry"), none, some (Str.ofString "_law_bits"), some (Str.ofString "_law_ahead"), some (Str.ofString "_law_pawn"), some (Str.ofString "_law_score"), some (Str.ofString "_law_seen"), some (Str.ofString "_law_position")]
  cn := ["PawnFacts", "Geometry", "Position"].map Str.ofString
  attrs := ["own", "attacks", "span", "isolated", "doubled", "backward", "connected", "opposed", "passed", "candidates", "files", "ranks", "size", "full", "has_double", "has_castling", "file_masks", "rank_masks", "rays", "king", "knight", "pawn", "castles", "rights_lost", "geo", "zob", "board", "kinds", "sides", "side", "rights", "ep", "half", "key", "history"].map Str.ofString }
noncomputable def theFadr : List Addr := [21, 28, 35, 42, 49, 63, 77, 84, 91, 98, 105, 112, 119, 126, 133, 140, 147, 154, 190, 204, 211, 218, 225, 232, 239, 246, 253, 267, 281, 288, 293, 298, 303, 310]
noncomputable def theT (B : Heap) (os : OsState) (w : World) (K : Frag) : Tabs := ⟨B, os, theN, [66, 193, 270], theFadr, theGlobs, K, w⟩
noncomputable def vnames (l : List String) : List Str := l.map Str.ofString
noncomputable def theVars : List (List Str) := [vnames ["b", "count"],
  vnames ["b", "out", "square"],
  vnames ["geo", "side", "square", "rank"],
  vnames ["a", "n", "quotient"],
  vnames ["mg", "eg"],
  vnames ["self", "own"],
  vnames ["pos", "side"],
  vnames ["geo", "b", "side"],
  vnames ["geo", "b", "right", "left"],
  vnames ["geo", "b", "side", "step"],
  vnames ["geo", "b", "side"],
  vnames ["geo", "b", "side"],
  vnames ["geo", "b", "side"],
  vnames ["geo", "own", "foe", "side", "found", "square", "bit", "beside", "helping", "guarding"],
  vnames ["pos", "side", "geo", "own", "foe", "beside", "facts", "helped", "held", "free"],
  vnames ["geo", "facts", "square", "side", "bit", "rank", "beside", "is_phalanx", "is_opposed", "guards", "v"],
  vnames ["geo", "facts", "square", "side", "bit", "rank", "is_free", "score"],
  vnames ["pos", "side", "facts", "score", "square"],
  vnames ["self", "files", "ranks", "has_double", "has_castling"],
  vnames ["d"],
  vnames ["geo", "row", "column", "r", "f"],
  vnames ["geo", "d", "edge"],
  vnames ["geo", "d", "inner", "delta", "ray", "order", "square", "goal"],
  vnames ["geo", "square"],
  vnames ["geo", "files", "not_first", "not_last", "not_first_two", "not_last_two", "square", "b", "near", "far", "found"],
  vnames ["geo", "start", "index", "base", "corner", "way", "goal"],
  vnames ["files", "ranks", "has_double", "has_castling", "geo"],
  vnames ["self", "geo", "zob"],
  vnames ["files", "ranks", "side", "places", "marks", "f", "r", "rank", "b", "square"],
  vnames ["files", "ranks", "own", "most", "places", "f", "r", "g", "rank"],
  vnames ["f", "r", "own", "foe", "beside", "guards", "helpers", "isolated", "doubled", "opposed", "stopped", "backward", "connected", "lone", "passed", "candidate"],
  vnames ["f", "r", "own", "fact", "isolated", "doubled", "backward", "connected", "opposed", "passed", "candidate", "free", "mg", "eg", "beside"],
  vnames ["files", "ranks", "side", "own", "foe", "told", "facts", "k"],
  vnames ["geo", "board", "pos", "square"]]
noncomputable def plainArgs (p : Arguments) (xs : List Str) : Bool := match p with
  | ⟨[], as, none, [], _, none, _⟩ => as.map (·.arg) == xs
  | _ => false
theorem look_zip : ∀ {xs : List Str} {vs : List Value}, xs.Nodup → vs.length = xs.length → (xs.filterMap fun n => ((xs.zip vs).lookup n).map (n, ·)) = xs.zip vs
  | [], _, _, _ => by simp
  | x :: xs, [], _, h => by simp at h
  | x :: xs, v :: vs, nd, h => by
    have nd' := List.nodup_cons.mp nd
    have e := look_zip nd'.2 (show vs.length = xs.length by simpa using h)
    rw [List.zip_cons_cons, List.filterMap_cons]
    simp only [List.lookup_cons, beq_self_eq_true, Option.map_some]
    congr 1
    refine Eq.trans ?_ e
    have g : ∀ l : List Str, (∀ y ∈ l, y ∈ xs) → (l.filterMap fun n => (((match n == x with | true => some v | false => (xs.zip vs).lookup n) : Option Value)).map (n, ·)) = l.filterMap fun n => ((xs.zip vs).lookup n).map (n, ·) := by
      intro l
      induction l with
      | nil => intro _; rfl
      | cons y l ih =>
        intro hl
        have : (y == x) = false := beq_eq_false_iff_ne.mpr fun q => nd'.1 (q ▸ hl y (.head _))
        rw [List.filterMap_cons, List.filterMap_cons, this, ih fun z hz => hl z (.tail _ hz)]
    exact g xs fun _ h => h
theorem look_some : ∀ {xs : List Str} {vs : List Value}, vs.length = xs.length → ∀ n ∈ xs, ((xs.zip vs).lookup n).isNone = false
  | [], _, _, _, h => by cases h
  | x :: xs, [], h, _, _ => by simp at h
  | x :: xs, v :: vs, h, n, hn => by
    rw [List.zip_cons_cons, List.lookup_cons]
    cases q : n == x with
    | true => rfl
    | false =>
      have : n ∈ xs := by
        rcases List.mem_cons.mp hn with e | e
        · subst e; simp at q
        · exact e
      exact look_some (by simpa using h) n this
theorem bind_plain {d : FuncData} {xs : List Str} {vals : List Value} (h1 : plainArgs d.params xs = true) (h2 : d.defaults = .none) (nd : xs.Nodup) (hl : vals.length = xs.length) : bindArgs d ⟨vals, []⟩ = pure (xs.zip vals) := by
  obtain ⟨nm, qn, p, bd, sc, gl, cl, df, kd, dc, pm, an, cd, ct, bl⟩ := d
  dsimp only at h1 h2
  subst h2
  unfold plainArgs at h1
  split at h1
  · rename_i as kds dfs
    have e := beq_iff_eq.mp h1
    unfold bindArgs
    dsimp only
    simp only [List.map_nil, List.nil_append, e]
    have hl' : ¬ (vals.length > xs.length) := by omega
    have hm : ∀ k, ((xs.take k).filter fun n => ((xs.zip vals).lookup n).isNone) = [] := by
      intro k
      rw [List.filter_eq_nil_iff]
      intro n hn
      rw [look_some hl n (List.mem_of_mem_take hn)]
      exact bft
    simp only [seqItems?, notAStandIn, hl]
    simp
    rw [look_zip nd hl]
    exact if_neg (by rw [hm]; exact bft)
  · cases h1
noncomputable def fdB (K : Frag) (fd : FnDef) (vars : List Str) (d : FuncData) (body : List Stmt) : Bool :=
  d.closure.isEmpty && (Nat.beq d.globals mainGlobals && (Nat.beq d.builtins builtinsNs && (!d.scope.isCoroutine && (!d.scope.isGenerator && ((match d.scope.kind with | .function => true | _ => false) && (codeIn K d.code d.qualname &&
    (Nat.beq vars.length fd.nv && (Nat.ble fd.np fd.nv && (plainArgs d.params (vars.take fd.np) && ((match d.defaults with | .none => true | _ => false) && (nodupS vars &&
      (vars.all (fun x => x != ("__debug__" : Str) && (d.scope.names.lookup x == some .local || d.scope.names.lookup x == some .cell)) && ckSs theN vars d.scope fd.body body))))))))))))
noncomputable def fnB (K : Frag) (fd : FnDef) (vars : List Str) (a : Addr) : Bool := match K.lookup a with
  | some ⟨_, _, .func d, _⟩ => match d.body with
    | .stmts body => fdB K fd vars d body
    | _ => false
  | _ => false
theorem fn_of {B : Heap} {os : OsState} {w : World} {K : Frag} {fd : FnDef} {vars : List Str} {a : Addr} (h : fnB K fd vars a = true) : FnGood (theT B os w K) fd a := by
  unfold fnB at h
  split at h
  · rename_i c dd d sl q
    split at h
    · rename_i body q2
      obtain ⟨c1, h⟩ := Bool.and_eq_true_iff.mp h
      obtain ⟨c2, h⟩ := Bool.and_eq_true_iff.mp h
      obtain ⟨c3, h⟩ := Bool.and_eq_true_iff.mp h
      obtain ⟨c4, h⟩ := Bool.and_eq_true_iff.mp h
      obtain ⟨c5, h⟩ := Bool.and_eq_true_iff.mp h
      obtain ⟨c6, h⟩ := Bool.and_eq_true_iff.mp h
      obtain ⟨c7, h⟩ := Bool.and_eq_true_iff.mp h
      obtain ⟨c8, h⟩ := Bool.and_eq_true_iff.mp h
      obtain ⟨c9, h⟩ := Bool.and_eq_true_iff.mp h
      obtain ⟨c10, h⟩ := Bool.and_eq_true_iff.mp h
      obtain ⟨c11, h⟩ := Bool.and_eq_true_iff.mp h
      obtain ⟨c12, h⟩ := Bool.and_eq_true_iff.mp h
      obtain ⟨c13, c14⟩ := Bool.and_eq_true_iff.mp h
      have e8 := Nat.eq_of_beq_eq_true c8
      have e9 := Nat.le_of_ble_eq_true c9
      refine .inl ⟨_, d, vars, body, ⟨q, rfl, q2, List.isEmpty_iff.mp c1, Nat.eq_of_beq_eq_true c2, Nat.eq_of_beq_eq_true c3, by simpa using c4, by simpa using c5, ?_, c7, e8, e9, fun vals hl => ?_, c12, c13, c14⟩⟩
      · revert c6; cases d.scope.kind <;> intro c6 <;> first | rfl | cases c6
      · refine bind_plain c10 ?_ ((List.take_sublist _ _).nodup (nodupS_nodup c12)) (by rw [hl, List.length_take]; omega)
        revert c11; cases d.defaults <;> intro c11 <;> first | rfl | cases c11
    · cases h
  · cases h
noncomputable def fnsOk (K : Frag) : List FnDef → List (List Str) → List Addr → Bool
  | fd :: r, vars :: s, a :: t => fnB K fd vars a && fnsOk K r s t
  | [], _, _ => true
  | _, _, _ => false
theorem fns_ok {B : Heap} {os : OsState} {w : World} {K : Frag} : ∀ {fs : List FnDef} {vs : List (List Str)} {as : List Addr}, fnsOk K fs vs as = true → ∀ (f : Nat) (fd : FnDef) (a : Addr), fs[f]? = some fd → as[f]? = some a → FnGood (theT B os w K) fd a
  | [], _, _, _, f, _, _, h1, _ => by simp at h1
  | _ :: _, [], _, h, _, _, _, _, _ => by cases h
  | _ :: _, _ :: _, [], h, _, _, _, _, _ => by cases h
  | fd :: r, vars :: s, a :: t, h, f, fd', a', h1, h2 => by
    obtain ⟨x, y⟩ := Bool.and_eq_true_iff.mp h
    cases f with
    | zero => cases h1; cases h2; exact fn_of x
    | succ f => exact fns_ok y f fd' a' h1 h2
end Mine
end

section
open PySem PySem.W PyProof.Rows
set_option maxRecDepth 100000
namespace Mine
noncomputable def intsB : List Value → List Int → Bool
  | [], [] => true
  | .int i _ :: vs, j :: l => decide (i = j) && intsB vs l
  | _, _ => false
noncomputable def tupB (K : Frag) (a : Addr) (l : List Int) : Bool := match K.lookup a with
  | some ⟨c, _, .seq vs _, _⟩ => c == .type "tuple" && intsB vs.toList l
  | _ => false
theorem vreps_ints {B : Heap} : ∀ {vs : List Value} {l : List Int}, intsB vs l = true → VReps B [] noOwn (l.map .int) vs
  | [], [], _ => .nil
  | [], _ :: _, h => by cases h
  | v :: vs, [], h => by cases v <;> cases h
  | v :: vs, j :: l, h => by
    cases v with
    | int i t =>
      simp only [intsB, Bool.and_eq_true, yy6] at h
      obtain ⟨rfl, h2⟩ := h
      rw [List.map_cons]
      exact .cons (by unfold VRep; exact ⟨t, rfl⟩) (vreps_ints h2)
    | _ => cases h
theorem vrep_tup {B : Heap} {K : Frag} (hK : K.In B) {a : Addr} {l : List Int} (h : tupB K a l = true) : VRep B [] noOwn (tupI l) (.ref a) := by
  unfold tupB at h
  split at h
  · rename_i c d vs n sl q
    rw [Bool.and_eq_true, beq_iff_eq] at h
    obtain ⟨rfl, h2⟩ := h
    unfold tupI VRep
    exact ⟨a, vs.toList, rfl, id, ⟨_, hK _ _ q, rfl, n, by simp⟩, vreps_ints h2⟩
  · cases h
noncomputable def attrsB (K : Frag) (C : Addr) : Bool := theN.attrs.all fun x => findIn K (.ref C) x == some none
theorem attrs_of {K : Frag} {C : Addr} (h : attrsB K C = true) : ∀ (k : Nat) (x : Str), theN.attrs[k]? = some x → findIn K (.ref C) x = some none := by
  intro k x hx
  have := List.all_eq_true.mp h x (List.mem_of_getElem? hx)
  exact beq_iff_eq.mp this
noncomputable def clsB (K : Frag) (C : Addr) : Bool := (clsIn K C).any (·.hasDict) && (findIn K (.ref C) "__getattribute__" == some (some (.builtin "object.__getattribute__")) && (findIn K (.ref C) "__setattr__" == some (some (.builtin "object.__setattr__")) && (plainOver K C && attrsB K C)))
theorem cls_of {K : Frag} {C : Addr} (h : clsB K C = true) : ClsOk K theN C := by
  obtain ⟨h1, h⟩ := Bool.and_eq_true_iff.mp h
  obtain ⟨h2, h⟩ := Bool.and_eq_true_iff.mp h
  obtain ⟨h3, h⟩ := Bool.and_eq_true_iff.mp h
  obtain ⟨h4, h5⟩ := Bool.and_eq_true_iff.mp h
  exact ⟨h1, beq_iff_eq.mp h2, beq_iff_eq.mp h3, h4, attrs_of h5⟩
noncomputable def mkB (K : Frag) (C fI : Addr) : Bool := makesIn K C && (findIn K (.ref C) "__init__" == some (some (.ref fI)) && typeIn K (.ref fI) == some (.type "function"))
theorem mk_of {B : Heap} {os : OsState} {w : World} {K : Frag} {C fI : Addr} (h : mkB K C fI = true) : ClsMk (theT B os w K) C fI := by
  obtain ⟨h1, h⟩ := Bool.and_eq_true_iff.mp h
  obtain ⟨h2, h3⟩ := Bool.and_eq_true_iff.mp h
  exact ⟨h1, beq_iff_eq.mp h2, beq_iff_eq.mp h3⟩
noncomputable def namB (K : Frag) (x : Str) (a : Addr) : Bool := nsIn K mainGlobals x == some (some (.ref a)) && keepIn K (.ref a)
noncomputable def fnsB (K : Frag) : List (Option Str) → List Addr → Bool
  | [], [] => true
  | none :: r, _ :: s => fnsB K r s
  | some x :: r, a :: s => namB K x a && fnsB K r s
  | _, _ => false
theorem fns_of {K : Frag} : ∀ {xs : List (Option Str)} {as : List Addr}, fnsB K xs as = true → ∀ (f : Nat) (x : Str), xs[f]? = some (some x) → ∃ a, as[f]? = some a ∧ namB K x a = true
  | [], _, _, f, x, h => by simp at h
  | none :: r, [], h, _, _, _ => by cases h
  | some _ :: r, [], h, _, _, _ => by cases h
  | none :: r, a :: s, h, f, x, hx => by
    cases f with
    | zero => simp at hx
    | succ f => simp at hx; obtain ⟨b, h1, h2⟩ := fns_of (xs := r) (as := s) h f x hx; exact ⟨b, by simpa using h1, h2⟩
  | some y :: r, a :: s, h, f, x, hx => by
    simp only [fnsB, Bool.and_eq_true] at h
    cases f with
    | zero => simp at hx; subst hx; exact ⟨a, rfl, h.1⟩
    | succ f => simp at hx; obtain ⟨b, h1, h2⟩ := fns_of (xs := r) (as := s) h.2 f x hx; exact ⟨b, by simpa using h1, h2⟩
noncomputable def gInt (K : Frag) (x : Str) (i : Int) : Bool := match nsIn K mainGlobals x with
  | some (some (.int j _)) => decide (j = i)
  | _ => false
theorem gInt_of {K : Frag} {B : Heap} (hK : K.In B) {mg : Str → Option Value} (hg : B.Ns mainGlobals mg) {x : Str} {i : Int} (h : gInt K x i = true) : ∃ cv, mg x = some cv ∧ VRep B [] noOwn (.int i) cv := by
  unfold gInt at h
  split at h
  · rename_i j t q
    rw [yy6] at h
    subst h
    exact ⟨_, mg_of hK hg q, by unfold VRep; exact ⟨t, rfl⟩⟩
  · cases h
theorem blt_of {K : Frag} {B : Heap} (hK : K.In B) {mg mb : Str → Option Value} (hg : B.Ns mainGlobals mg) (hbt : ∀ x : Str, x ≠ "__name__" → mb x = bootBuiltins x) {x : Str} {c : Value} (h1 : nsIn K mainGlobals x = some none) (h2 : (x == ("__name__" : Str)) = false) (h3 : bootBuiltins x = some c) (h4 : keepB K c = true) :
    mg x = none ∧ mb x = some c ∧ keepB K c = true :=
  ⟨mg_none_of hK hg h1, (hbt x (beq_eq_false_iff_ne.mp h2)).trans h3, h4⟩
noncomputable def nilB (K : Frag) (x : Str) : Bool := nsIn K mainGlobals x == some none
noncomputable def tupG (K : Frag) (x : Str) (a : Addr) (l : List Int) : Bool := nsIn K mainGlobals x == some (some (.ref a)) && tupB K a l
theorem tupG_of {K : Frag} {B : Heap} (hK : K.In B) {mg : Str → Option Value} (hg : B.Ns mainGlobals mg) {x : Str} {a : Addr} {l : List Int} (h : tupG K x a l = true) : ∃ cv, mg x = some cv ∧ VRep B [] noOwn (tupI l) cv := by
  obtain ⟨h1, h2⟩ := Bool.and_eq_true_iff.mp h
  exact ⟨.ref a, mg_of hK hg (beq_iff_eq.mp h1), vrep_tup hK h2⟩
structure All (K : Frag) : Prop where
  fns : fnsOk K theFns theVars theFadr = true
  c0 : clsB K 66 = true
  c1 : clsB K 193 = true
  c2 : clsB K 270 = true
  m0 : mkB K 66 63 = true
  m1 : mkB K 193 190 = true
  m2 : mkB K 270 267 = true
  fnn : fnsB K theN.fn theFadr = true
  cln : fnsB K (theN.cn.map some) [66, 193, 270] = true
  n1 : nilB K "abs" = true
  n2 : nilB K "min" = true
  n3 : nilB K "len" = true
  n4 : nilB K "sum" = true
  n5 : nilB K "range" = true
  n6 : nilB K "list" = true
  g0 : gInt K "WHITE" 0 = true
  g1 : gInt K "BLACK" 1 = true
  g2 : gInt K "PAWN" 1 = true
  g3 : gInt K "EMPTY" 0 = true
  g4 : tupG K "STEP_FILES" 175 [0, 1, 0, -1, 1, 1, -1, -1] = true
  g5 : tupG K "STEP_RANKS" 176 [1, 0, -1, 0, 1, -1, -1, 1] = true
noncomputable def allL (K : Frag) : List Bool := [fnsOk K theFns theVars theFadr, clsB K 66, clsB K 193, clsB K 270, mkB K 66 63, mkB K 193 190, mkB K 270 267, fnsB K theN.fn theFadr, fnsB K (theN.cn.map some) [66, 193, 270],
  nilB K "abs", nilB K "min", nilB K "len", nilB K "sum", nilB K "range", nilB K "list", gInt K "WHITE" 0, gInt K "BLACK" 1, gInt K "PAWN" 1, gInt K "EMPTY" 0, tupG K "STEP_FILES" 175 [0, 1, 0, -1, 1, 1, -1, -1], tupG K "STEP_RANKS" 176 [1, 0, -1, 0, 1, -1, -1, 1]]
noncomputable def allT : List Bool → Bool
  | [] => true
  | b :: r => b && allT r
theorem allT_get : ∀ {l : List Bool}, allT l = true → ∀ (i : Nat) (b : Bool), l[i]? = some b → b = true
  | [], _, i, b, e => by simp at e
  | c :: r, h, i, b, e => by
    obtain ⟨x, y⟩ := Bool.and_eq_true_iff.mp h
    cases i with
    | zero => cases e; exact x
    | succ i => exact allT_get y i b e
theorem all_of {K : Frag} (h : allT (allL K) = true) : All K := by
  have g := allT_get h
  exact ⟨g 0 _ rfl, g 1 _ rfl, g 2 _ rfl, g 3 _ rfl, g 4 _ rfl, g 5 _ rfl, g 6 _ rfl, g 7 _ rfl, g 8 _ rfl, g 9 _ rfl, g 10 _ rfl, g 11 _ rfl, g 12 _ rfl, g 13 _ rfl, g 14 _ rfl, g 15 _ rfl, g 16 _ rfl, g 17 _ rfl, g 18 _ rfl, g 19 _ rfl, g 20 _ rfl⟩
theorem mk_all {K : Frag} (L : All K) (B : Heap) (os : OsState) (w : World) : ∀ (c f : Nat) (C : Addr), (theT B os w K).clss[c]? = some C → inits[c]? = some f → ∃ fI, (theT B os w K).fadr[f]? = some fI ∧ ClsMk (theT B os w K) C fI
  | 0, _, _, h1, h2 => by cases h1; cases h2; exact ⟨63, rfl, mk_of L.m0⟩
  | 1, _, _, h1, h2 => by cases h1; cases h2; exact ⟨190, rfl, mk_of L.m1⟩
  | 2, _, _, h1, h2 => by cases h1; cases h2; exact ⟨267, rfl, mk_of L.m2⟩
  | n + 3, _, _, h1, _ => by simp [theT] at h1
theorem good {K : Frag} (L : All K) (B : Heap) (os : OsState) (w : World) (hK : K.In B) {mg mb : Str → Option Value} (hg : B.Ns mainGlobals mg) (hb : B.Ns builtinsNs mb) (hbt : ∀ x : Str, x ≠ "__name__" → mb x = bootBuiltins x) : Good (theT B os w K) := by
  refine ⟨hK, nodupS_nodup (by kernel_rfl), ?_, mg, mb, hg, hb, ?_, ?_, ?_, ?_⟩
  · intro c C h
    match c, h with
    | 0, h => cases h; exact cls_of L.c0
    | 1, h => cases h; exact cls_of L.c1
    | 2, h => cases h; exact cls_of L.c2
    | n + 3, h => simp [theT] at h
  · intro g x v h1 h2
    match g, h1, h2 with
    | 0, h1, h2 => cases h1; cases h2; exact gInt_of hK hg L.g0
    | 1, h1, h2 => cases h1; cases h2; exact gInt_of hK hg L.g1
    | 2, h1, h2 => cases h1; cases h2; exact gInt_of hK hg L.g2
    | 3, h1, h2 => cases h1; cases h2; exact gInt_of hK hg L.g3
    | 4, h1, h2 => cases h1; cases h2; exact tupG_of hK hg L.g4
    | 5, h1, h2 => cases h1; cases h2; exact tupG_of hK hg L.g5
    | n + 6, h1, h2 => simp [theT, theN] at h1
  · intro f x c h1 h2
    cases f with
    | abs => cases h2; cases beq_iff_eq.mp h1; exact blt_of hK hg hbt (beq_iff_eq.mp L.n1) (by kernel_rfl) (by kernel_rfl) rfl
    | min2 => cases h2; cases beq_iff_eq.mp h1; exact blt_of hK hg hbt (beq_iff_eq.mp L.n2) (by kernel_rfl) (by kernel_rfl) rfl
    | len => cases h2; cases beq_iff_eq.mp h1; exact blt_of hK hg hbt (beq_iff_eq.mp L.n3) (by kernel_rfl) (by kernel_rfl) rfl
    | sum => cases h2; cases beq_iff_eq.mp h1; exact blt_of hK hg hbt (beq_iff_eq.mp L.n4) (by kernel_rfl) (by kernel_rfl) rfl
    | range1 => cases h2; cases beq_iff_eq.mp h1; exact blt_of hK hg hbt (beq_iff_eq.mp L.n5) (by kernel_rfl) (by kernel_rfl) rfl
    | range2 => cases h2; cases beq_iff_eq.mp h1; exact blt_of hK hg hbt (beq_iff_eq.mp L.n5) (by kernel_rfl) (by kernel_rfl) rfl
    | range3 => cases h2; cases beq_iff_eq.mp h1; exact blt_of hK hg hbt (beq_iff_eq.mp L.n5) (by kernel_rfl) (by kernel_rfl) rfl
    | user _ => cases h2
    | cls _ => cases h2
  · intro f x h
    obtain ⟨a, h1, h2⟩ := fns_of L.fnn f x h
    unfold namB at h2
    rw [Bool.and_eq_true, beq_iff_eq] at h2
    exact ⟨a, h1, mg_of hK hg h2.1, h2.2⟩
  · intro c x h
    obtain ⟨a, h1, h2⟩ := fns_of L.cln c x (by rw [List.getElem?_map]; show Option.map some (theN.cn[c]?) = _; rw [show theN.cn[c]? = some x from h]; rfl)
    unfold namB at h2
    rw [Bool.and_eq_true, beq_iff_eq] at h2
    exact ⟨a, h1, mg_of hK hg h2.1, h2.2⟩
end Mine
end

section
open PySem PySem.W PyProof.Rows
set_option maxRecDepth 100000
namespace Mine
noncomputable def lawVars : List Str := vnames ["script", "drawn", "files", "ranks", "board", "n", "pos", "side", "places", "square", "rank", "facts", "told"]
theorem vreps_of_ints {h : Heap} {φ : Phi} {own : Addr → Prop} : ∀ {cs : List Value} {is : List Int}, IntsAre cs is → VReps h φ own (ivs is) cs
  | _, _, .nil => .nil
  | _, _, .cons n t r => .cons (by unfold VRep; exact ⟨t, rfl⟩) (vreps_of_ints r)
theorem ints_take {cs : List Value} {is : List Int} (h : IntsAre cs is) : ∀ n, IntsAre (cs.take n) (is.take n) := by
  induction h with
  | nil => intro n; simp; exact .nil
  | cons i t r ih =>
    intro n
    cases n with
    | zero => exact .nil
    | succ n => exact .cons i t (ih n)
theorem ints_len {cs : List Value} {is : List Int} (h : IntsAre cs is) : cs.length = is.length := by
  induction h with
  | nil => rfl
  | cons i t r ih => simp [ih]
theorem env_ok {T : Tabs} {nm : Str} {scope : Scope} {L a : Addr} {cd : Value} (hk : scope.kind = .function) (hv : lawVars.all (fun x => x != ("__debug__" : Str) && scope.names.lookup x == some .local) = true) (hc : scope.names.all (fun y => y.2 != .cell) = true) (hL : T.B.get? L = none) :
    EnvOk T (envOf nm scope L a cd) lawVars := by
  refine ⟨hk, rfl, rfl, nodupS_nodup (by kernel_rfl), fun x hx => ?_, hL, fun x c h => (by cases h), fun x y c h => (by cases h), fun x h => ?_⟩
  · have := List.all_eq_true.mp hv x hx
    rw [Bool.and_eq_true, bne_iff_ne, beq_iff_eq] at this
    exact ⟨beq_eq_false_iff_ne.mpr this.1, .inl this.2⟩
  · have := List.all_eq_true.mp hc (x, .cell) (lookup_mem' h)
    simp at this
theorem rep0 {T : Tabs} {s : Shared} (hk : ∀ b o, T.B.get? b = some o → s.heap.get? b = some o) (hg : s.gens = #[]) (ho : s.os = T.os) : Rep T [] [] s :=
  ⟨rfl, hk, hg, ho, fun i o h => (by simp at h), fun b h => (by obtain ⟨i, sl, o, e, _⟩ := h; simp at e), fun i j si sj oi oj h => (by simp at h)⟩
theorem dp_ok (env : PySem.Env) : (callerA.deeper env).depth ≤ 310 := by show 1 + claimMargin + 1 ≤ 310; decide
theorem un_ok (env : PySem.Env) : (callerA.deeper env).units ≤ 50 := by show 4 + 3 ≤ 50; decide
theorem entry {prog : Program} {w : World} {B : Heap} {os : OsState} {K : Frag} (L : All K) (hK : K.In B) (hlim : B.NoLimit) {mg mb : Str → Option Value} (hg : B.Ns mainGlobals mg) (hb : B.Ns builtinsNs mb) (hbt : ∀ x : Str, x ≠ "__name__" → mb x = bootBuiltins x)
    {a : Addr} {cvs : List Value} {is : List Int} (hl : B.IsList a cvs.toArray) (hI : IntsAre cvs is) (hn : is.length ≤ 63) {env : PySem.Env} {s : Shared} {A : Around} {p1 p2 p3 p4 p5 p6 p7 p8 : Pos} {k : Nat} {rest : List Stmt}
    (KE : EnvOk (theT B os w K) env lawVars) (hkl : env.kindOf "list" = some .globalImplicit) (hks : env.kindOf "script" = some .local) (hck : ckSs theN lawVars env.scope d_law.body rest = true) (hcell : env.cells = [])
    (R0 : Rep (theT B os w K) [] [] s) {m : Str → Option Value} (hns : s.heap.Ns env.locals m) (hm : m "script" = some (.ref a)) (hh : A.handled = none) {D U : Nat} (hdp : A.depth ≤ D) (hun : A.units ≤ U) (hU : U + 250 < cLine) (hD : D + 100 < recursionLimit) :
    wpAny (model prog w) A (execs (.Assign [.Name "drawn" p1] (.Subscript (.Call (.Name "list" p2) [.Name "script" p3] [] p4) (.Slice none (some (.Constant (.int 18) k p5)) none p6) p7) p8 :: rest) env)
      (fun fl st => fl = .ret (.bool true) ∧ (∀ b o, B.get? b = some o → st.heap.get? b = some o) ∧ st.os = os ∧ st.gens = #[]) NoE s := by
  have G := good L B os w hK hg hb hbt
  have C : CallsOk prog (theT B os w K) (run 5) inits D U := calls_all G hlim (fns_ok L.fns) (mk_all L B os w) 5 D U (by lia) (by lia)
  have hnl : mg "list" = none := mg_none_of hK hg (beq_iff_eq.mp L.n6)
  have hbl : mb "list" = some (.type "list") := (hbt "list" (beq_eq_false_iff_ne.mp (by kernel_rfl))).trans (by kernel_rfl)
  obtain ⟨ρ', H', hrun⟩ := law_run (n := 0) mathOK (is.take 18) (by rw [List.length_take]; lia)
  have hlen := ints_len hI
  refine wpAny_execs_cons (wpAny_Assign_Name ?_ (swaps_plain rfl))
  refine Subscript_ ?_
  refine Call_Name rfl (Calls.Name_function_global KE.kind hkl (Calls.loadGlobal_builtin (by rw [KE.glob]; exact base_ns R0 hg) hnl (by rw [KE.blt]; exact base_ns R0 hb) hbl ?_) (by kernel_rfl))
  have hsc : starEach [Expr.Name "script" p3] env = (false, eval (.Name "script" p3) env) :: starEach [] env := star_plain rfl
  rw [hsc]
  refine callWith_of (P := fun h => ∀ b o, s.heap.get? b = some o → h.get? b = some o) rfl (fun h X => ⟨.machine, .inr (.inl rfl), .now⟩) (Calls.evalArgs_plain (Calls.spliced_cons ?_))
  show wpAny _ _ (eval (.Name "script" p3) env) _ _ _
  refine wpAny_Name (wpAny_loadName_local KE.kind hks hns hm ?_) (by kernel_rfl)
  show wpAny _ _ (spliced []) _ _ _
  refine Calls.spliced_nil ⟨fun _ _ e => e, ?_⟩
  obtain ⟨oa, ho, hc, nn, hd⟩ := hl
  have ho' := R0.base _ _ ho
  refine call_list_seq a (.inl rfl) ho' hc hd (fun h1 c1 hk1 hD1 => ?_) (by rw [List.size_toArray, sizeLine_eq]; lia)
  have R1 := R0.grow hk1 s.toks
  have S1 : Step NoX [] [] s.heap [] [] h1 := Step.grow hk1
  refine wpAny_Slice (evalPart_none_step (evalPart_some_step (wpAny_Constant_int (evalPart_none_step ?_))))
  have hL : Heap.IsList h1 s.heap.objs.size cvs.toArray := ⟨_, hD1, rfl, c1, rfl⟩
  have kS : ∀ b o, h1.get? b = some o → (h1.push { cls := .type "slice", data := .fields #[.none, .int 18 s.toks, .none] }).get? b = some o := fun _ _ e => Heap.get?_push_of_some _ e
  refine tail_any (T := "list") (hL.push _).typeIs slot_list_getitem.lookup (wpAny_getItem_list_slice (hL.push _) (Heap.IsSliceOf.new ..) .none (.int 18 s.toks) .none (by simp) ?_ (by rw [List.size_toArray, sizeLine_eq]; lia)) rfl
  have R2 := R1.grow kS (s.toks + 1)
  have S2 : Step NoX [] [] h1 [] [] (h1.push { cls := .type "slice", data := .fields #[.none, .int 18 s.toks, .none] }) := Step.grow kS
  have e1 : slicePick cvs.toArray none (some 18) none = (cvs.take 18).toArray := by
    have := slicePick_upto' cvs.toArray 18
    simpa using this
  rw [e1]
  have P := R2.push_list (X := NoX) (vreps_of_ints (ints_take hI 18)) (s.toks + 1)
  obtain ⟨φ3, R3, S3, V3⟩ := P
  have F0 : Frame [] [] s.heap env lawVars (List.replicate 13 none) := by
    refine ⟨rfl, fun q => ?_, ⟨m, hns, fun i x v h1 h2 h3 => ?_⟩, fun x c h => ?_⟩
    · obtain ⟨i, sl, o, e, _⟩ := q
      simp at e
    · rw [List.getElem?_replicate] at h3
      split at h3 <;> cases h3
    · rw [hcell] at h; cases h
  have F3 := (F0.step0 R0 (S1.trans S2)).step0 R2 S3
  refine store_var (X := XOf env) (i := 1) KE R3 F3 rfl V3 XOf.loc XOf.cell fun s4 R4 F4 S4 => ?_
  refine wpAny_mono (sndS_alls G C (by lia) d_law.body lawVars env _ ρ' rest _ H' _ φ3 s4 A hck hrun ⟨hh, hdp, hun, KE, R4, F4⟩) (fun fl st h5 => ?_) fun _ _ f => f
  obtain ⟨φ5, R5, S5, F5, cv, rfl, V5⟩ := h5
  unfold VRep at V5
  subst V5
  exact ⟨rfl, R5.base, R5.os, R5.gens⟩
end Mine
end

section
open PySem PySem.W PyProof.Rows
set_option maxRecDepth 1000000
namespace Mine
noncomputable def fragOf (h : Heap) : List Addr → Frag
  | [] => []
  | a :: r => match h.get? a with
    | some o => (a, o) :: fragOf h r
    | none => fragOf h r
theorem fragOf_in {h : Heap} : ∀ as, (fragOf h as).In h
  | [], a, o, e => by cases e
  | b :: r, a, o, e => by
    unfold fragOf at e
    cases q : h.get? b with
    | none => rw [q] at e; exact fragOf_in r a o e
    | some x =>
      rw [q] at e
      rw [List.lookup_cons] at e
      cases hab : a == b with
      | true => rw [hab] at e; cases e; rw [beq_iff_eq.mp hab]; exact q
      | false => rw [hab] at e; exact fragOf_in r a o e
noncomputable def hook : Hook where
  α := Bool
  obs s := allT (allL (fragOf s.heap (List.range 320)))
  val _ := true
  says _ h := ∃ h0, allT (allL (fragOf h0 (List.range 320))) = true ∧ ∀ b o, h0.get? b = some o → h.get? b = some o
  of _ s e := ⟨s.heap, e, fun _ _ e => e⟩
  keeps _ _ _ x k := x.imp fun _ y => ⟨y.1, fun b o e => k b o (y.2 b o e)⟩
noncomputable def theBody (b : List Stmt) : List Stmt := (b.take 7).drop 1 ++ (b.take 9).drop 8 ++ (b.take 12).drop 10 ++ (b.take 26).drop 13 ++ (b.take 28).drop 27 ++ (b.take 40).drop 29 ++ (b.take 42).drop 41 ++ b.drop 43
noncomputable abbrev theP : Program := PySem.Challenge.rw_nt0436_01.row.toRowW.prog
noncomputable def theV : Program := { theP with main := { theP.main with body := theBody theP.main.body } }
theorem said : OpenLaw.wellSaid PySem.Challenge.rw_nt0436_01 = true := by
  refine (congrFun PySem.W.Fast.te9446332074065402090 _).trans ?_
  delta PySem.W.Fast.tw9446332074065402090 PySem.W.Fast.tw17960256430627541270 PySem.W.Fast.tw2436336058641802641 PySem.W.Fast.tw12908688711261696721
  dsimp only
  repeat' with_reducible refine look_both ?_ ?_
  all_goals decide +kernel
noncomputable def runT (den : Code → Sem Fin) (p : Program) (w : World) (n₀ : Nat) (ann : Option Value) : Nat → SharedT → Thread → Option SharedT
  | 0, _, _ => none
  | n + 1, s, t => match through t with
    | true => some s
    | false => match PySem.W.Fast.tw6613529449190102663 n₀ ann t with
      | false => none
      | true => match PySem.W.Fast.tw10156331382660048174 den p w s t with
        | some (s', t') => runT den p w n₀ ann n s' t'
        | none => none
theorem runT_of {tb : String → Option Builtin} {p : Program} {w : World} {n₀ : Nat} {ann : Option Value} : ∀ (n : Nat) (s r : SharedT) (t : Thread), runT (denote tb) p w n₀ ann n s t = some r → topRun tb p w n₀ ann n s.abs t = some r.abs
  | 0, _, _, _, h => nse h
  | n + 1, s, r, t, h => by
    unfold runT at h
    rw [← PySem.W.Fast.te6613529449190102663, ← PySem.W.Fast.te10156331382660048174] at h
    unfold topRun
    cases ht : through t with
    | true => rw [ht] at h; cases h; rfl
    | false =>
      rw [ht] at h
      cases hk : stepOk n₀ ann t with
      | false => rw [hk] at h; cases h
      | true =>
        rw [hk] at h
        cases hs : stepT (denote tb) p w s t with
        | none => rw [hs] at h; cases h
        | some q => obtain ⟨s₂, t₂⟩ := q; rw [hs] at h; rw [stepT_spec hs]; exact runT_of n s₂ r t₂ h
noncomputable def treeOf : List Obj → Nat → BT → BT
  | [], _, t => t
  | o :: r, n, t => treeOf r (n + 1) (t.ins n o)
noncomputable def bootS (w : World) (os : OsState) : SharedT := ⟨treeOf (boot_heap w.params).objs.toList 0 .nil, (boot_heap w.params).objs.size, (boot_heap w.params).life, Array.mk [], boot_drawn, boot_toks, os⟩
theorem bootT (P : Params) : absHeap (treeOf (boot_heap P).objs.toList 0 .nil) (boot_heap P).objs.size (boot_heap P).life = boot_heap P := by kernel_rfl
theorem bootN (P : Params) : ((boot_heap P).isNs mainGlobals && (Array.mk [] : Array GenState).size == 0) = true := by kernel_rfl
noncomputable def theRun (w : World) (os : OsState) : Option SharedT := runT (PySem.W.Fast.tw11892475500146522536 PySem.W.Fast.tw14364793385576792824) theP w (boot_heap w.params).objs.size ((boot_heap w.params).nsMap mainGlobals "__annotations__") 4432 (bootS w os) (topStub theP)
theorem theRun_eq {w : World} {os : OsState} {r : SharedT} (h : theRun w os = some r) : topRun treeTable theP w (boot_heap w.params).objs.size ((boot_heap w.params).nsMap mainGlobals "__annotations__") 4432 ⟨boot_heap w.params, Array.mk [], boot_drawn, boot_toks, os⟩ (topStub theP) = some r.abs := by
  unfold theRun at h
  rw [← PySem.W.Fast.te11892475500146522536, ← PySem.W.Fast.te14364793385576792824] at h
  have := runT_of _ _ _ _ h
  unfold SharedT.abs bootS at this
  rw [bootT] at this
  exact this
theorem left_of {p q : Program} {loose : List Str} {Xt : Shared → Bool} {α : Type} {Yf : Shared → α} {Ya : World → α} {N : Nat} {run : World → OsState → Option SharedT} (e : opening p = plainProg p.main.scope.names) (hN : Nat.ble 600 N = true) (f : ∀ s, fenceModules? p s = some s)
    (hrun : ∀ w os r, run w os = some r → topRun treeTable p w (boot_heap w.params).objs.size ((boot_heap w.params).nsMap mainGlobals "__annotations__") N ⟨boot_heap w.params, Array.mk [], boot_drawn, boot_toks, os⟩ (topStub p) = some r.abs)
    (l1 : ∀ w os, (run w os).map (fun s => openSeen q loose (importedModules p.main.body) Xt true s.abs) = some (openGood q loose)) (l2 : ∀ w os, (run w os).map (fun s => Yf s.abs) = some (Ya w))
    (l3 : ∀ w os, (run w os).map (fun s => staticsOk (importedModules p.main.body) (boot_heap w.params) s.abs.heap && namesBound p s.abs.heap && gensDone s.abs && laidKept (boot_heap w.params) s.abs.heap) = some true) : LeftO p q loose Xt Yf Ya N := by
  intro w
  obtain ⟨⟨h0, g0, d0, k0, os⟩, h1, h2⟩ := Option.map_eq_some_iff.mp (boot_open e hN f w)
  simp only [Prod.mk.injEq] at h2
  obtain ⟨rfl, rfl, rfl, rfl⟩ := h2
  replace l1 := l1 w os
  replace l2 := l2 w os
  replace l3 := l3 w os
  cases er : run w os with
  | none => rw [er] at l1; cases l1
  | some r =>
    rw [er] at l1 l2 l3
    rw [Option.map_some] at l1 l2 l3
    unfold openEnds
    rw [h1, Option.bind_some]
    unfold topFrom
    dsimp only
    rw [bootN, hrun w os r er, Option.bind_some, Option.some.inj l3]
    dsimp only
    rw [Option.map_some, Option.some.inj l1, Option.some.inj l2]
noncomputable abbrev theX (s : Shared) : Bool := xlAt theV [] s && recOk (RowW.records PySem.Challenge.rw_nt0436_01.row.toRowW) s
set_option maxHeartbeats 0 in
theorem looks1 : ∀ (w : World) (os : OsState), (theRun w os).map (fun s => openSeen theV [] (importedModules theP.main.body) theX true s.abs) = some (openGood theV []) := by
  rw [PySem.W.Fast.te4187177175401517315]
  intro w os
  kernel_rfl
set_option maxHeartbeats 0 in
theorem looks2 (w : World) (os : OsState) : (theRun w os).map (fun s => hook.obs s.abs) = some (hook.val w) := by kernel_rfl
set_option maxHeartbeats 0 in
theorem looks3 (w : World) (os : OsState) : (theRun w os).map (fun s => staticsOk (importedModules theP.main.body) (boot_heap w.params) s.abs.heap && namesBound theP s.abs.heap && gensDone s.abs && laidKept (boot_heap w.params) s.abs.heap) = some true := by kernel_rfl
theorem left : LeftO theP theV [] theX (Hook.obs hook) (Hook.val hook) 4432 := left_of (by rfl) rfl (fun s => rfl) (fun _ _ _ => theRun_eq) looks1 looks2 looks3
end Mine
end

open PySem PySem.W PyProof.Rows
set_option maxRecDepth 100000 in
set_option maxHeartbeats 8000000 in
theorem PySem.Challenge.cw_nt0436_01_holds : PySem.Challenge.rw_nt0436_01.Holds := by
  refine holds_law Mine.said fun said => ?_
  refine holds_open (q := Mine.theV) (loose := []) (Xt := Mine.theX) (XP := XL Mine.theV []) (Yf := Hook.obs Mine.hook) (Ya := Hook.val Mine.hook) (YP := Hook.says Mine.hook) (N := 4432) Mine.left (Hook.of Mine.hook) (Hook.keeps Mine.hook) (fun s e => xl_of s (Bool.and_eq_true_iff.mp e).1) XL.keeps (by rfl) (by rfl) (by rfl) (fun s e => recFacts_of (Bool.and_eq_true_iff.mp e).2) (by rfl) (by first | assumption | decide +kernel) (by decide +kernel) ⟨rfl, rfl, rfl, rfl, rfl, by decide +kernel⟩ ?hw ?hc
  case hw => w_witness2
  intro w s₀ s₁ mg mb G Y fa o pm cd doc dV kV ho hd hcd hD hmg hg args vals as hpre hlay hrd hwl hlo
  obtain ⟨h0, hck, hsub⟩ := Y
  have KX : (Mine.fragOf h0 (List.range 320)).In s₁.heap := (Mine.fragOf_in _).keeps hsub
  have X := (Ground.X G).1
  have V := (Ground.X G).2
  have GL := glob_more (Ground.glob G (by decide +kernel) (by decide +kernel)) V
  refine Ground.open G ?_
  intro T B D TE TW
  refine guard_noD D (by decide +kernel) ?_
  clear D
  obtain ⟨_, _, M⟩ := bmod_of_top T
  have TA := at_of_top T
  obtain ⟨_, _, he, B0⟩ := based_of_top T rfl hmg ho hd
  have he' : cd = _ := he
  subst he'
  clear he hmg
  wrow_args hpre hlay hrd hwl hlo
  refine enter_call ?_
  w_top on
  try refine codeAny_mono ?_ (fun _ _ g => GoodW.toG g)
  have K0 := below_caller (Top.heap T)
  w_call any ho hd hcd hD T F
  clear hd TA
  rename Glob _ _ _ _ _ _ _ _ => GL'
  rename Fr _ _ _ _ => F'
  rename Heap.IsList _ _ _ => hL'
  rename IntsAre _ _ => hI'
  rename (_ = #[]) => hgen'
  rename (¬ (_ < _)) => hn'
  rename Shared => SH1
  obtain ⟨OS1, eOS⟩ : ∃ o, o = SH1.os := ⟨_, rfl⟩
  refine wpAny_mono (Mine.entry (os := OS1) (Mine.all_of hck) KX GL'.nolimit GL'.g GL'.b GL'.builtins hL' hI' (by omega) ?ke1 ?kl1 ?ks1 ?ck1 ?ce1 ?rp1 F'.ns ?sc1 ?hh1 (D := 310) (U := 50) ?dp1 ?un1 ?uu1 ?dd1) ?endA ?endB
  case ke1 => exact Mine.env_ok rfl (by kernel_rfl) (by kernel_rfl) (Mine.none_size _)
  case kl1 => rfl
  case ks1 => rfl
  case ck1 => kernel_rfl
  case ce1 => rfl
  case rp1 => exact Mine.rep0 F'.keep hgen' eOS.symm
  case sc1 => rfl
  case hh1 => rfl
  case dp1 => exact Mine.dp_ok _
  case un1 => exact Mine.un_ok _
  case uu1 => decide
  case dd1 => decide
  case endA =>
    rintro fl st ⟨rfl, h1, h2, h3⟩
    exact ⟨.inl ⟨.bool true, .bool true, [], rfl, raisesW_false (by wrow_none_raised), .bool true, (by wrow_post), fun _ => ⟨.nil, fun _ h => by cases h⟩⟩, h1, h2.trans eOS, h3⟩
  case endB => exact fun _ _ h => h.elim

